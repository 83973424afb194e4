import PyProof.Rows.All
import Wide.All
import OpenK.AllK
import Wide.FinOn
import PyProof.EqLayable
import HandS.ForMost
import HandS.ForExc
import HandS.TupAny
import HandS.Deep
import HandS.DictComp
import HandS.ExcInit
import HandS.ExcField
import HandS.Walk
import HandS.IsInst
import HandS.CallSlots
import HandS.NoneIn
import HandS.Zip
import HandS.Strs
import HandS.Wide
import KE.GoesEnum
import KE.KDictDisplayH
import KE.GoesMore
import PySem.Challenge.RW_onescore_k34_whole_exchanged_statements
set_option Elab.async false
set_option linter.all false
set_option maxRecDepth 100000
set_option maxHeartbeats 4000000
/-! The trees of a score, their layout, and what an exchange does to the question whether the score is clear. -/
namespace K34
open PySem

inductive Val where
  | num (n : Int)
  | nam (x : Str)
  | op (s : Str) (l r : Val)
  deriving DecidableEq

inductive Stm where
  | msg (f t l : Str) (v : Val) (x : Str)
  | set (e x : Str) (v : Val)
  | ask (e x : Str)
  | ite (e : Str) (v : Val) (y n : List Stm)
  | whl (e : Str) (v : Val) (b : List Stm)
  | call (p : Str) (es : List Str)

/-- a statement without those inside of it -/
inductive FS where
  | msg (f t l : Str) (v : Val) (x : Str)
  | set (e x : Str) (v : Val)
  | ask (e x : Str)
  | ite (e : Str) (v : Val)
  | whl (e : Str) (v : Val)
  | call (p : Str) (es : List Str)

mutual
def Stm.all : Stm → List Stm
  | .ite e v y n => .ite e v y n :: (allB y ++ allB n)
  | .whl e v b => .whl e v b :: allB b
  | .msg f t l v x => [.msg f t l v x]
  | .set e x v => [.set e x v]
  | .ask e x => [.ask e x]
  | .call p es => [.call p es]
def allB : List Stm → List Stm
  | [] => []
  | s :: r => s.all ++ allB r
end

mutual
def Stm.sz : Stm → Nat
  | .ite _ _ y n => 1 + szB y + szB n
  | .whl _ _ b => 1 + szB b
  | .msg _ _ _ _ _ => 1
  | .set _ _ _ => 1
  | .ask _ _ => 1
  | .call _ _ => 1
def szB : List Stm → Nat
  | [] => 0
  | s :: r => s.sz + szB r
end

def Stm.flat : Stm → FS
  | .msg f t l v x => .msg f t l v x
  | .set e x v => .set e x v
  | .ask e x => .ask e x
  | .ite e v _ _ => .ite e v
  | .whl e v _ => .whl e v
  | .call p es => .call p es

def Stm.ends1 : Stm → List Str
  | .msg f t _ _ _ => [f, t]
  | .set e _ _ => [e]
  | .ask e _ => [e]
  | .ite e _ _ _ => [e]
  | .whl e _ _ => [e]
  | .call p _ => [p]

def Stm.ends (s : Stm) : List Str := s.all.flatMap Stm.ends1

def FS.conc (e : Str) : FS → Bool
  | .msg f t _ _ _ => decide (f = e) || decide (t = e)
  | .set a _ _ => decide (a = e)
  | .ask a _ => decide (a = e)
  | .ite a _ => decide (a = e)
  | .whl a _ => decide (a = e)
  | .call a _ => decide (a = e)

abbrev Row := FS × List Nat

mutual
def rowS (p goal : Nat) : Stm → List Row
  | .ite e v y n => (.ite e v, [if 0 < szB y then p + 1 else goal, if 0 < szB n then p + 1 + szB y else goal]) :: (rowB (p + 1) goal y ++ rowB (p + 1 + szB y) goal n)
  | .whl e v b => (.whl e v, [if 0 < szB b then p + 1 else p, goal]) :: rowB (p + 1) p b
  | .msg f t l v x => [(.msg f t l v x, [goal])]
  | .set e x v => [(.set e x v, [goal])]
  | .ask e x => [(.ask e x, [goal])]
  | .call q es => [(.call q es, [goal])]
def rowB (first behind : Nat) : List Stm → List Row
  | [] => []
  | s :: r => rowS first (if 0 < szB r then first + s.sz else behind) s ++ rowB (first + s.sz) behind r
end

theorem sz_pos (s : Stm) : 0 < s.sz := by cases s <;> simp [Stm.sz] <;> omega
theorem szB_pos {s : Stm} {r : List Stm} : 0 < szB (s :: r) := by have := sz_pos s; simp [szB]; omega
theorem szB_zero {b : List Stm} (h : ¬ 0 < szB b) : b = [] := by
  cases b with
  | nil => rfl
  | cons s r => exact absurd szB_pos h

theorem szB_append (a b : List Stm) : szB (a ++ b) = szB a + szB b := by
  induction a with
  | nil => simp [szB]
  | cons s r ih => simp [szB, ih]; omega
theorem allB_append (a b : List Stm) : allB (a ++ b) = allB a ++ allB b := by
  induction a with
  | nil => simp [allB]
  | cons s r ih => simp [allB, ih]

mutual
theorem all_len : ∀ s : Stm, s.all.length = s.sz
  | .ite e v y n => by simp [Stm.all, Stm.sz, allB_len y, allB_len n]; omega
  | .whl e v b => by simp [Stm.all, Stm.sz, allB_len b]; omega
  | .msg _ _ _ _ _ => rfl
  | .set _ _ _ => rfl
  | .ask _ _ => rfl
  | .call _ _ => rfl
theorem allB_len : ∀ b : List Stm, (allB b).length = szB b
  | [] => rfl
  | s :: r => by simp [allB, szB, all_len s, allB_len r]
end

mutual
theorem rowS_flat : ∀ (s : Stm) (p g : Nat), (rowS p g s).map (·.1) = s.all.map Stm.flat
  | .ite e v y n, p, g => by simp [rowS, Stm.all, rowB_flat y, rowB_flat n, Stm.flat]
  | .whl e v b, p, g => by simp [rowS, Stm.all, rowB_flat b, Stm.flat]
  | .msg _ _ _ _ _, _, _ => rfl
  | .set _ _ _, _, _ => rfl
  | .ask _ _, _, _ => rfl
  | .call _ _, _, _ => rfl
theorem rowB_flat : ∀ (b : List Stm) (p g : Nat), (rowB p g b).map (·.1) = (allB b).map Stm.flat
  | [], _, _ => rfl
  | s :: r, p, g => by simp [rowB, allB, rowS_flat s, rowB_flat r]
end

theorem rowS_len (s : Stm) (p g : Nat) : (rowS p g s).length = s.sz := by
  have h := congrArg List.length (rowS_flat s p g)
  simpa [all_len] using h
theorem rowB_len (b : List Stm) (p g : Nat) : (rowB p g b).length = szB b := by
  have h := congrArg List.length (rowB_flat b p g)
  simpa [allB_len] using h

/-! ### a shift of the places -/
def mp (f : Nat → Nat) (r : Row) : Row := (r.1, r.2.map f)

mutual
theorem rowS_shift (f : Nat → Nat) : ∀ (s : Stm) (p g p' g' : Nat), (∀ i, i < s.sz → f (p + i) = p' + i) → f g = g' → rowS p' g' s = (rowS p g s).map (mp f)
  | .ite e v y n, p, g, p', g', h, hg => by
    have h0 := h
    simp only [Stm.sz] at h0
    have hy : rowB (p' + 1) g' y = (rowB (p + 1) g y).map (mp f) := rowB_shift f y _ _ _ _ (fun i hi => by have := h0 (1 + i) (by omega); rw [show p + 1 + i = p + (1 + i) by omega, this]; omega) hg
    have hn : rowB (p' + 1 + szB y) g' n = (rowB (p + 1 + szB y) g n).map (mp f) := rowB_shift f n _ _ _ _ (fun i hi => by have := h0 (1 + szB y + i) (by omega); rw [show p + 1 + szB y + i = p + (1 + szB y + i) by omega, this]; omega) hg
    simp only [rowS, hy, hn, List.map_cons, List.map_append, mp, List.map_nil]
    congr 2
    congr 1
    · by_cases c : 0 < szB y
      · have := h0 1 (by omega); simp [c, this]
      · simp [c, hg]
    · congr 1
      by_cases c : 0 < szB n
      · have := h0 (1 + szB y) (by omega)
        simp only [c, if_true]
        rw [show p + 1 + szB y = p + (1 + szB y) by omega, this]; omega
      · simp [c, hg]
  | .whl e v b, p, g, p', g', h, hg => by
    have h0 := h
    simp only [Stm.sz] at h0
    have hp : f p = p' := by have := h0 0 (by omega); simpa using this
    have hb : rowB (p' + 1) p' b = (rowB (p + 1) p b).map (mp f) := rowB_shift f b _ _ _ _ (fun i hi => by have := h0 (1 + i) (by omega); rw [show p + 1 + i = p + (1 + i) by omega, this]; omega) hp
    simp only [rowS, hb, List.map_cons, mp, List.map_nil]
    congr 2
    congr 1
    · by_cases c : 0 < szB b
      · have := h0 1 (by omega); simp [c, this]
      · simp [c, hp]
    · simp [hg]
  | .msg _ _ _ _ _, p, g, p', g', h, hg => by simp [rowS, mp, hg]
  | .set _ _ _, p, g, p', g', h, hg => by simp [rowS, mp, hg]
  | .ask _ _, p, g, p', g', h, hg => by simp [rowS, mp, hg]
  | .call _ _, p, g, p', g', h, hg => by simp [rowS, mp, hg]
theorem rowB_shift (f : Nat → Nat) : ∀ (b : List Stm) (p g p' g' : Nat), (∀ i, i < szB b → f (p + i) = p' + i) → f g = g' → rowB p' g' b = (rowB p g b).map (mp f)
  | [], _, _, _, _, _, _ => rfl
  | s :: r, p, g, p', g', h, hg => by
    have h0 := h
    simp only [szB] at h0
    have hr : rowB (p' + s.sz) g' r = (rowB (p + s.sz) g r).map (mp f) := rowB_shift f r _ _ _ _ (fun i hi => by have := h0 (s.sz + i) (by omega); rw [show p + s.sz + i = p + (s.sz + i) by omega, this]; omega) hg
    have hs : rowS p' (if 0 < szB r then p' + s.sz else g') s = (rowS p (if 0 < szB r then p + s.sz else g) s).map (mp f) := rowS_shift f s _ _ _ _ (fun i hi => h0 i (by omega)) (by
      by_cases c : 0 < szB r
      · simp [c, h0 s.sz (by omega)]
      · simp [c, hg])
    simp [rowB, hr, hs]
end

/-! ### where a row goes on -/
mutual
theorem rowS_next : ∀ (s : Stm) (p g : Nat) (r : Row), r ∈ rowS p g s → ∀ x ∈ r.2, x = g ∨ (p ≤ x ∧ x < p + s.sz)
  | .ite e v y n, p, g, r, hr, x, hx => by
    simp only [rowS, List.mem_cons, List.mem_append] at hr
    simp only [Stm.sz]
    rcases hr with rfl | hr | hr
    · simp only [List.mem_cons, List.not_mem_nil, or_false] at hx
      rcases hx with rfl | rfl <;> split <;> omega
    · have := rowB_next y _ _ r hr x hx; omega
    · have := rowB_next n _ _ r hr x hx; omega
  | .whl e v b, p, g, r, hr, x, hx => by
    simp only [rowS, List.mem_cons] at hr
    simp only [Stm.sz]
    rcases hr with rfl | hr
    · simp only [List.mem_cons, List.not_mem_nil, or_false] at hx
      rcases hx with rfl | rfl
      · split <;> omega
      · exact .inl rfl
    · have := rowB_next b _ _ r hr x hx; omega
  | .msg _ _ _ _ _, p, g, r, hr, x, hx => by
    simp only [rowS, List.mem_cons, List.not_mem_nil, or_false] at hr; subst hr
    simp only [List.mem_cons, List.not_mem_nil, or_false] at hx; exact .inl hx
  | .set _ _ _, p, g, r, hr, x, hx => by
    simp only [rowS, List.mem_cons, List.not_mem_nil, or_false] at hr; subst hr
    simp only [List.mem_cons, List.not_mem_nil, or_false] at hx; exact .inl hx
  | .ask _ _, p, g, r, hr, x, hx => by
    simp only [rowS, List.mem_cons, List.not_mem_nil, or_false] at hr; subst hr
    simp only [List.mem_cons, List.not_mem_nil, or_false] at hx; exact .inl hx
  | .call _ _, p, g, r, hr, x, hx => by
    simp only [rowS, List.mem_cons, List.not_mem_nil, or_false] at hr; subst hr
    simp only [List.mem_cons, List.not_mem_nil, or_false] at hx; exact .inl hx
theorem rowB_next : ∀ (b : List Stm) (p g : Nat) (r : Row), r ∈ rowB p g b → ∀ x ∈ r.2, x = g ∨ (p ≤ x ∧ x < p + szB b)
  | [], _, _, _, hr, _, _ => by simp [rowB] at hr
  | s :: r, p, g, q, hq, x, hx => by
    simp only [rowB, List.mem_append] at hq
    simp only [szB]
    rcases hq with hq | hq
    · have := rowS_next s _ _ q hq x hx
      rcases this with e | h
      · split at e
        · exact .inr (by omega)
        · exact .inl e
      · exact .inr (by omega)
    · have := rowB_next r _ _ q hq x hx; omega
end
/-- a branch has two places behind it, any other statement one -/
def FS.two : FS → Bool
  | .ite _ _ => true
  | .whl _ _ => true
  | _ => false
def okRow (r : Row) : Prop := r.2.length = if r.1.two then 2 else 1
mutual
theorem rowS_ok : ∀ (s : Stm) (p g : Nat) (r : Row), r ∈ rowS p g s → okRow r
  | .ite e v y n, p, g, r, hr => by
    simp only [rowS, List.mem_cons, List.mem_append] at hr
    rcases hr with rfl | hr | hr
    · rfl
    · exact rowB_ok y _ _ r hr
    · exact rowB_ok n _ _ r hr
  | .whl e v b, p, g, r, hr => by
    simp only [rowS, List.mem_cons] at hr
    rcases hr with rfl | hr
    · rfl
    · exact rowB_ok b _ _ r hr
  | .msg _ _ _ _ _, p, g, r, hr => by
    simp only [rowS, List.mem_cons, List.not_mem_nil, or_false] at hr; subst hr; rfl
  | .set _ _ _, p, g, r, hr => by
    simp only [rowS, List.mem_cons, List.not_mem_nil, or_false] at hr; subst hr; rfl
  | .ask _ _, p, g, r, hr => by
    simp only [rowS, List.mem_cons, List.not_mem_nil, or_false] at hr; subst hr; rfl
  | .call _ _, p, g, r, hr => by
    simp only [rowS, List.mem_cons, List.not_mem_nil, or_false] at hr; subst hr; rfl
theorem rowB_ok : ∀ (b : List Stm) (p g : Nat) (r : Row), r ∈ rowB p g b → okRow r
  | [], _, _, _, hr => by simp [rowB] at hr
  | s :: r, p, g, q, hq => by
    simp only [rowB, List.mem_append] at hq
    rcases hq with hq | hq
    · exact rowS_ok s _ _ q hq
    · exact rowB_ok r _ _ q hq
end

theorem conc_flat (e : Str) (s : Stm) : s.flat.conc e = true ↔ e ∈ s.ends1 := by
  cases s <;> simp only [Stm.flat, FS.conc, Stm.ends1, decide_eq_true_eq, Bool.or_eq_true, List.mem_cons, List.not_mem_nil, or_false] <;> first | exact eq_comm | exact or_congr eq_comm eq_comm
theorem rowS_conc {e : Str} {s : Stm} (h : e ∉ s.ends) {p g : Nat} {r : Row} (hr : r ∈ rowS p g s) : r.1.conc e = false := by
  have hm : r.1 ∈ (rowS p g s).map (·.1) := List.mem_map.mpr ⟨r, hr, rfl⟩
  rw [rowS_flat] at hm
  obtain ⟨t, ht, et⟩ := List.mem_map.mp hm
  cases c : r.1.conc e with
  | false => rfl
  | true =>
    rw [← et, conc_flat] at c
    exact absurd (List.mem_flatMap.mpr ⟨t, ht, c⟩) h

/-! ### silent ways -/
def Seg (R : List Row) (p : Nat) (l : List Row) : Prop := ∀ i, i < l.length → R[p + i]? = l[i]?
theorem Seg.left {R : List Row} {p : Nat} {a b : List Row} (h : Seg R p (a ++ b)) : Seg R p a := fun i hi => by
  rw [h i (by simp; omega), List.getElem?_append_left hi]
theorem Seg.right {R : List Row} {p : Nat} {a b : List Row} (h : Seg R p (a ++ b)) : Seg R (p + a.length) b := fun i hi => by
  have := h (a.length + i) (by simp; omega)
  rw [show p + a.length + i = p + (a.length + i) by omega, this, List.getElem?_append_right (by omega)]
  congr 1; omega
theorem Seg.cons {R : List Row} {p : Nat} {x : Row} {b : List Row} (h : Seg R p (x :: b)) : R[p]? = some x ∧ Seg R (p + 1) b :=
  ⟨by simpa using h 0 (by simp), Seg.right (a := [x]) h⟩
theorem seg_mid (a b c : List Row) : Seg (a ++ b ++ c) a.length b := fun i hi => by
  rw [List.append_assoc, List.getElem?_append_right (by omega), List.getElem?_append_left (by omega)]
  congr 1; omega

inductive Eps (R : List Row) (e : Str) : Nat → Nat → Prop
  | refl (x : Nat) : Eps R e x x
  | step {x y z : Nat} {r : Row} : R[x]? = some r → r.1.conc e = false → y ∈ r.2 → Eps R e y z → Eps R e x z
theorem Eps.trans {R : List Row} {e : Str} {x y z : Nat} (a : Eps R e x y) (b : Eps R e y z) : Eps R e x z := by
  induction a with
  | refl => exact b
  | step h1 h2 h3 _ ih => exact .step h1 h2 h3 (ih b)
theorem Eps.one {R : List Row} {e : Str} {x y : Nat} {r : Row} (h1 : R[x]? = some r) (h2 : r.1.conc e = false) (h3 : y ∈ r.2) : Eps R e x y := .step h1 h2 h3 (.refl _)

mutual
theorem exitS {R : List Row} {e : Str} : ∀ (s : Stm) (p g : Nat), Seg R p (rowS p g s) → (∀ r ∈ rowS p g s, r.1.conc e = false) → ∀ i, i < s.sz → Eps R e (p + i) g
  | .ite a v y n, p, g, hs, hc, i, hi => by
    simp only [rowS] at hs hc
    obtain ⟨h0, h1⟩ := hs.cons
    have hy := h1.left
    have hn := h1.right
    rw [rowB_len] at hn
    have cy : ∀ r ∈ rowB (p + 1) g y, r.1.conc e = false := fun r hr => hc r (by simp [hr])
    have cn : ∀ r ∈ rowB (p + 1 + szB y) g n, r.1.conc e = false := fun r hr => hc r (by simp [hr])
    have c0 := hc _ (List.mem_cons_self)
    have ey := exitB y (p + 1) g hy cy
    have en := exitB n (p + 1 + szB y) g hn cn
    simp only [Stm.sz] at hi
    by_cases z : i = 0
    · subst z
      by_cases c : 0 < szB y
      · refine .step h0 c0 (y := p + 1) (by simp [c]) ?_
        simpa using ey 0 c
      · exact .one h0 c0 (by simp [c])
    · by_cases c : i < 1 + szB y
      · have := ey (i - 1) (by omega)
        rwa [show p + 1 + (i - 1) = p + i by omega] at this
      · have := en (i - 1 - szB y) (by omega)
        rwa [show p + 1 + szB y + (i - 1 - szB y) = p + i by omega] at this
  | .whl a v b, p, g, hs, hc, i, hi => by
    simp only [rowS] at hs hc
    obtain ⟨h0, h1⟩ := hs.cons
    have cb : ∀ r ∈ rowB (p + 1) p b, r.1.conc e = false := fun r hr => hc r (by simp [hr])
    have c0 := hc _ (List.mem_cons_self)
    have eb := exitB b (p + 1) p h1 cb
    have out : Eps R e p g := .one h0 c0 (by simp)
    simp only [Stm.sz] at hi
    by_cases z : i = 0
    · subst z; exact out
    · have := eb (i - 1) (by omega)
      rw [show p + 1 + (i - 1) = p + i by omega] at this
      exact this.trans out
  | .msg _ _ _ _ _, p, g, hs, hc, i, hi => by
    simp only [Stm.sz] at hi
    obtain rfl : i = 0 := by omega
    simp only [rowS] at hs hc
    exact .one hs.cons.1 (hc _ List.mem_cons_self) (by simp)
  | .set _ _ _, p, g, hs, hc, i, hi => by
    simp only [Stm.sz] at hi
    obtain rfl : i = 0 := by omega
    simp only [rowS] at hs hc
    exact .one hs.cons.1 (hc _ List.mem_cons_self) (by simp)
  | .ask _ _, p, g, hs, hc, i, hi => by
    simp only [Stm.sz] at hi
    obtain rfl : i = 0 := by omega
    simp only [rowS] at hs hc
    exact .one hs.cons.1 (hc _ List.mem_cons_self) (by simp)
  | .call _ _, p, g, hs, hc, i, hi => by
    simp only [Stm.sz] at hi
    obtain rfl : i = 0 := by omega
    simp only [rowS] at hs hc
    exact .one hs.cons.1 (hc _ List.mem_cons_self) (by simp)
theorem exitB {R : List Row} {e : Str} : ∀ (b : List Stm) (p g : Nat), Seg R p (rowB p g b) → (∀ r ∈ rowB p g b, r.1.conc e = false) → ∀ i, i < szB b → Eps R e (p + i) g
  | [], _, _, _, _, i, hi => by simp [szB] at hi
  | s :: r, p, g, hs, hc, i, hi => by
    simp only [rowB] at hs hc
    have h1 := hs.left
    have h2 := hs.right
    rw [rowS_len] at h2
    have e1 := exitS s p _ h1 (fun q hq => hc q (by simp [hq]))
    have e2 := exitB r (p + s.sz) g h2 (fun q hq => hc q (by simp [hq]))
    simp only [szB] at hi
    by_cases c : i < s.sz
    · refine (e1 i c).trans ?_
      by_cases d : 0 < szB r
      · simp only [d, if_true]
        simpa using e2 0 d
      · simp only [d, if_false]
        exact .refl _
    · have := e2 (i - s.sz) (by omega)
      rwa [show p + s.sz + (i - s.sz) = p + i by omega] at this
end
end K34

/-! An exchange keeps a score clear. -/
namespace K34
open PySem

def dsj (a b : Stm) : Prop := ∀ e, e ∈ a.ends → e ∉ b.ends
theorem dsj.symm {a b : Stm} (h : dsj a b) : dsj b a := fun e he ha => h e ha he

inductive Xch : List Stm → List Stm → Prop
  | here (pre post : List Stm) (a b : Stm) : dsj a b → Xch (pre ++ a :: b :: post) (pre ++ b :: a :: post)
  | iteY (pre post : List Stm) (e : Str) (v : Val) {y y' : List Stm} (n : List Stm) : Xch y y' → Xch (pre ++ .ite e v y n :: post) (pre ++ .ite e v y' n :: post)
  | iteN (pre post : List Stm) (e : Str) (v : Val) (y : List Stm) {n n' : List Stm} : Xch n n' → Xch (pre ++ .ite e v y n :: post) (pre ++ .ite e v y n' :: post)
  | whl (pre post : List Stm) (e : Str) (v : Val) {b b' : List Stm} : Xch b b' → Xch (pre ++ .whl e v b :: post) (pre ++ .whl e v b' :: post)

theorem Xch.symm {b b' : List Stm} (h : Xch b b') : Xch b' b := by
  induction h with
  | here pre post a b d => exact .here pre post b a d.symm
  | iteY pre post e v n _ ih => exact .iteY pre post e v n ih
  | iteN pre post e v y _ ih => exact .iteN pre post e v y ih
  | whl pre post e v _ ih => exact .whl pre post e v ih
theorem Xch.sz {b b' : List Stm} (h : Xch b b') : szB b' = szB b := by
  induction h with
  | here pre post a b d => simp only [szB_append, szB]; omega
  | iteY pre post e v n _ ih => simp only [szB_append, szB, Stm.sz, ih]
  | iteN pre post e v y _ ih => simp only [szB_append, szB, Stm.sz, ih]
  | whl pre post e v _ ih => simp only [szB_append, szB, Stm.sz, ih]

theorem rowB_append (b : List Stm) (g : Nat) : ∀ (a : List Stm) (p : Nat), rowB p g (a ++ b) = rowB p (if 0 < szB b then p + szB a else g) a ++ rowB (p + szB a) g b
  | [], p => by simp [rowB, szB]
  | s :: r, p => by
    have ih := rowB_append b g r (p + s.sz)
    simp only [List.cons_append, rowB, szB, ih, szB_append, List.append_assoc, Nat.add_assoc]
    by_cases c : 0 < szB r
    · have c2 : 0 < szB r + szB b := by omega
      simp only [c, c2, if_true]
    · have : szB r = 0 := by omega
      simp only [this, Nat.zero_add, Nat.add_zero, Nat.lt_irrefl, if_false]

theorem Xch.split {B B' : List Stm} (hx : Xch B B') : ∀ p g, (g < p ∨ p + szB B ≤ g) → ∃ (pre post : List Row) (a b : Stm) (q h : Nat), dsj a b ∧
    rowB p g B = pre ++ (rowS q (q + a.sz) a ++ rowS (q + a.sz) h b) ++ post ∧ rowB p g B' = pre ++ (rowS q (q + b.sz) b ++ rowS (q + b.sz) h a) ++ post ∧
    q = p + pre.length ∧ (h < q ∨ q + a.sz + b.sz ≤ h) ∧ ∀ r, r ∈ pre ∨ r ∈ post → ∀ y ∈ r.2, y ≤ q ∨ q + a.sz + b.sz ≤ y := by
  induction hx with
  | here pre post a b d =>
    intro p g hg
    refine ⟨rowB p (p + szB pre) pre, rowB (p + szB pre + a.sz + b.sz) g post, a, b, p + szB pre, if 0 < szB post then p + szB pre + a.sz + b.sz else g, d, ?_, ?_, ?_, ?_, ?_⟩
    · have c : 0 < szB (a :: b :: post) := szB_pos
      have c2 : 0 < szB (b :: post) := szB_pos
      rw [rowB_append]
      simp only [c, if_true, rowB, c2, List.append_assoc]
    · have c : 0 < szB (b :: a :: post) := szB_pos
      have c2 : 0 < szB (a :: post) := szB_pos
      rw [rowB_append]
      simp only [c, if_true, rowB, c2, List.append_assoc]
      rw [show p + szB pre + b.sz + a.sz = p + szB pre + a.sz + b.sz by omega]
    · rw [rowB_len]
    · simp only [szB_append, szB] at hg
      split <;> omega
    · simp only [szB_append, szB] at hg
      intro r hr y hy
      rcases hr with hr | hr
      · have := rowB_next _ _ _ r hr y hy; omega
      · have := rowB_next _ _ _ r hr y hy; omega
  | iteY pre post e v n hx ih =>
    rename_i y y'
    intro p g hg
    have hs := hx.sz
    simp only [szB_append, szB, Stm.sz] at hg
    have hG : (if 0 < szB post then p + szB pre + (1 + szB y + szB n) else g) < p + szB pre + 1 ∨ p + szB pre + 1 + szB y ≤ (if 0 < szB post then p + szB pre + (1 + szB y + szB n) else g) := by split <;> omega
    have hG2 : (if 0 < szB post then p + szB pre + (1 + szB y + szB n) else g) ≤ p + szB pre ∨ p + szB pre + 1 + szB y ≤ (if 0 < szB post then p + szB pre + (1 + szB y + szB n) else g) := by split <;> omega
    generalize eG : (if 0 < szB post then p + szB pre + (1 + szB y + szB n) else g) = G at hG hG2
    obtain ⟨pr, po, a, b, q, h, d, e1, e2, e3, e4, e5⟩ := ih (p + szB pre + 1) G hG
    have l1 : (rowB (p + szB pre + 1) G y).length = szB y := rowB_len _ _ _
    rw [e1] at l1
    simp only [List.length_append, rowS_len] at l1
    have key : ∀ z : List Stm, szB z = szB y → rowB p g (pre ++ .ite e v z n :: post) = rowB p (p + szB pre) pre ++ ((.ite e v, [if 0 < szB y then p + szB pre + 1 else G, if 0 < szB n then p + szB pre + 1 + szB y else G]) ::
        (rowB (p + szB pre + 1) G z ++ (rowB (p + szB pre + 1 + szB y) G n ++ rowB (p + szB pre + (1 + szB y + szB n)) g post))) := by
      intro z hz
      have c : 0 < szB (.ite e v z n :: post) := szB_pos
      rw [rowB_append]
      simp only [c, if_true, rowB, rowS, Stm.sz, hz, eG, List.cons_append, List.append_assoc]
    refine ⟨rowB p (p + szB pre) pre ++ (.ite e v, [if 0 < szB y then p + szB pre + 1 else G, if 0 < szB n then p + szB pre + 1 + szB y else G]) :: pr, po ++ (rowB (p + szB pre + 1 + szB y) G n ++ rowB (p + szB pre + (1 + szB y + szB n)) g post), a, b, q, h, d, ?_, ?_, ?_, e4, ?_⟩
    · rw [key y rfl, e1]; simp only [List.append_assoc, List.cons_append]
    · rw [key y' hs, e2]; simp only [List.append_assoc, List.cons_append]
    · rw [e3]; simp only [List.length_append, List.length_cons, rowB_len]; omega
    · intro r hr x hxr
      simp only [List.mem_append, List.mem_cons] at hr
      rcases hr with (hr | rfl | hr) | (hr | hr | hr)
      · have := rowB_next _ _ _ r hr x hxr; omega
      · simp only [List.mem_cons, List.not_mem_nil, or_false] at hxr
        rcases hxr with rfl | rfl <;> split <;> omega
      · exact e5 r (.inl hr) x hxr
      · exact e5 r (.inr hr) x hxr
      · have := rowB_next _ _ _ r hr x hxr; omega
      · have := rowB_next _ _ _ r hr x hxr; omega
  | iteN pre post e v y hx ih =>
    rename_i n n'
    intro p g hg
    have hs := hx.sz
    simp only [szB_append, szB, Stm.sz] at hg
    have hG : (if 0 < szB post then p + szB pre + (1 + szB y + szB n) else g) < p + szB pre + 1 + szB y ∨ p + szB pre + 1 + szB y + szB n ≤ (if 0 < szB post then p + szB pre + (1 + szB y + szB n) else g) := by split <;> omega
    have hG2 : (if 0 < szB post then p + szB pre + (1 + szB y + szB n) else g) ≤ p + szB pre ∨ p + szB pre + 1 + szB y + szB n ≤ (if 0 < szB post then p + szB pre + (1 + szB y + szB n) else g) := by split <;> omega
    generalize eG : (if 0 < szB post then p + szB pre + (1 + szB y + szB n) else g) = G at hG hG2
    obtain ⟨pr, po, a, b, q, h, d, e1, e2, e3, e4, e5⟩ := ih (p + szB pre + 1 + szB y) G hG
    have l1 : (rowB (p + szB pre + 1 + szB y) G n).length = szB n := rowB_len _ _ _
    rw [e1] at l1
    simp only [List.length_append, rowS_len] at l1
    have key : ∀ z : List Stm, szB z = szB n → rowB p g (pre ++ .ite e v y z :: post) = rowB p (p + szB pre) pre ++ ((.ite e v, [if 0 < szB y then p + szB pre + 1 else G, if 0 < szB n then p + szB pre + 1 + szB y else G]) ::
        (rowB (p + szB pre + 1) G y ++ (rowB (p + szB pre + 1 + szB y) G z ++ rowB (p + szB pre + (1 + szB y + szB n)) g post))) := by
      intro z hz
      have c : 0 < szB (.ite e v y z :: post) := szB_pos
      rw [rowB_append]
      simp only [c, if_true, rowB, rowS, Stm.sz, hz, eG, List.cons_append, List.append_assoc]
    refine ⟨rowB p (p + szB pre) pre ++ (.ite e v, [if 0 < szB y then p + szB pre + 1 else G, if 0 < szB n then p + szB pre + 1 + szB y else G]) :: (rowB (p + szB pre + 1) G y ++ pr), po ++ rowB (p + szB pre + (1 + szB y + szB n)) g post, a, b, q, h, d, ?_, ?_, ?_, e4, ?_⟩
    · rw [key n rfl, e1]; simp only [List.append_assoc, List.cons_append]
    · rw [key n' hs, e2]; simp only [List.append_assoc, List.cons_append]
    · rw [e3]; simp only [List.length_append, List.length_cons, rowB_len]; omega
    · intro r hr x hxr
      simp only [List.mem_append, List.mem_cons] at hr
      rcases hr with (hr | rfl | hr | hr) | (hr | hr)
      · have := rowB_next _ _ _ r hr x hxr; omega
      · simp only [List.mem_cons, List.not_mem_nil, or_false] at hxr
        rcases hxr with rfl | rfl <;> split <;> omega
      · have := rowB_next _ _ _ r hr x hxr; omega
      · exact e5 r (.inl hr) x hxr
      · exact e5 r (.inr hr) x hxr
      · have := rowB_next _ _ _ r hr x hxr; omega
  | whl pre post e v hx ih =>
    rename_i y y'
    intro p g hg
    have hs := hx.sz
    simp only [szB_append, szB, Stm.sz] at hg
    have hG2 : (if 0 < szB post then p + szB pre + (1 + szB y) else g) ≤ p + szB pre ∨ p + szB pre + 1 + szB y ≤ (if 0 < szB post then p + szB pre + (1 + szB y) else g) := by split <;> omega
    generalize eG : (if 0 < szB post then p + szB pre + (1 + szB y) else g) = G at hG2
    obtain ⟨pr, po, a, b, q, h, d, e1, e2, e3, e4, e5⟩ := ih (p + szB pre + 1) (p + szB pre) (by omega)
    have l1 : (rowB (p + szB pre + 1) (p + szB pre) y).length = szB y := rowB_len _ _ _
    rw [e1] at l1
    simp only [List.length_append, rowS_len] at l1
    have key : ∀ z : List Stm, szB z = szB y → rowB p g (pre ++ .whl e v z :: post) = rowB p (p + szB pre) pre ++ ((.whl e v, [if 0 < szB y then p + szB pre + 1 else p + szB pre, G]) ::
        (rowB (p + szB pre + 1) (p + szB pre) z ++ rowB (p + szB pre + (1 + szB y)) g post)) := by
      intro z hz
      have c : 0 < szB (.whl e v z :: post) := szB_pos
      rw [rowB_append]
      simp only [c, if_true, rowB, rowS, Stm.sz, hz, eG, List.cons_append, List.append_assoc]
    refine ⟨rowB p (p + szB pre) pre ++ (.whl e v, [if 0 < szB y then p + szB pre + 1 else p + szB pre, G]) :: pr, po ++ rowB (p + szB pre + (1 + szB y)) g post, a, b, q, h, d, ?_, ?_, ?_, e4, ?_⟩
    · rw [key y rfl, e1]; simp only [List.append_assoc, List.cons_append]
    · rw [key y' hs, e2]; simp only [List.append_assoc, List.cons_append]
    · rw [e3]; simp only [List.length_append, List.length_cons, rowB_len]; omega
    · intro r hr x hxr
      simp only [List.mem_append, List.mem_cons] at hr
      rcases hr with (hr | rfl | hr) | (hr | hr)
      · have := rowB_next _ _ _ r hr x hxr; omega
      · simp only [List.mem_cons, List.not_mem_nil, or_false] at hxr
        rcases hxr with rfl | rfl
        · split <;> omega
        · omega
      · exact e5 r (.inl hr) x hxr
      · exact e5 r (.inr hr) x hxr
      · have := rowB_next _ _ _ r hr x hxr; omega
end K34

/-! Pairs of places that look the same to an end; a simulation keeps an unclear score unclear. -/
namespace K34
open PySem

def must (R : List Row) (e : Str) (x : Nat) : Bool := match R[x]? with
  | none => true
  | some r => r.1.conc e
def ansL (f : FS) : List Str := if f.two then ["yes", "no"] else [""]
def aft (r : Row) (a : Str) : Nat := if a = ("no" : Str) then r.2.getD 1 0 else r.2.getD 0 0

inductive Look where
  | send (t l : Str) (v : Val)
  | get (f l x : Str)
  | ite (v : Val) (a : Str)
  | whl (p : Nat) (v : Val) (a : Str)
  | set (x : Str) (v : Val)
  | ask (x : Str)
  | bad
  deriving DecidableEq
def lk (e : Str) (x : Nat) : FS → Str → Look
  | .msg f t l v y, _ => if f = e then .send t l v else .get f l y
  | .set _ y v, _ => .set y v
  | .ask _ y, _ => .ask y
  | .ite _ v, a => .ite v a
  | .whl _ v, a => .whl x v a
  | .call _ _, _ => .bad
def steps (R : List Row) (e : Str) (x y : Nat) : List (Nat × Nat) :=
  if must R e x = false then
    match R[x]? with
    | some r => (ansL r.1).map fun a => (aft r a, y)
    | none => []
  else if must R e y = false then
    match R[y]? with
    | some r => (ansL r.1).map fun a => (x, aft r a)
    | none => []
  else match R[x]?, R[y]? with
    | some r, some q => (ansL r.1).flatMap fun a => ((ansL q.1).filter fun b => decide (lk e x r.1 a = lk e y q.1 b)).map fun b => (aft r a, aft q b)
    | _, _ => []
def agL : Look → Look → Bool
  | .get f l x, .get f' l' x' => if f = f' then (!decide (l = l') || decide (x = x')) else false
  | a, b => decide (a = b)
def agr (R : List Row) (e : Str) (x y : Nat) : Bool :=
  if x = y then true else match R[x]?, R[y]? with
    | some r, some q => agL (lk e x r.1 "") (lk e y q.1 "")
    | _, _ => false

inductive PReach (R : List Row) (e : Str) : Nat → Nat → Prop
  | start : PReach R e 0 0
  | go {x y : Nat} {g : Nat × Nat} : PReach R e x y → g ∈ steps R e x y → PReach R e g.1 g.2
def Bad (R : List Row) (e : Str) : Prop := ∃ x y, PReach R e x y ∧ must R e x = true ∧ must R e y = true ∧ agr R e x y = false

theorem yes_no : ("yes" : Str) ≠ "no" := by decide +kernel
theorem emp_no : ("" : Str) ≠ "no" := by decide +kernel
theorem aft_mem {r : Row} (h : okRow r) {a : Str} (ha : a ∈ ansL r.1) : aft r a ∈ r.2 := by
  obtain ⟨f, l⟩ := r
  unfold okRow at h
  unfold ansL at ha
  unfold aft
  simp only at h ha ⊢
  cases c : f.two with
  | true =>
    rw [c, if_pos rfl] at h ha
    match l, h with
    | [u, v], _ =>
      split
      · exact List.mem_cons_of_mem _ List.mem_cons_self
      · exact List.mem_cons_self
  | false =>
    rw [c, if_neg (by decide)] at h ha
    match l, h with
    | [u], _ =>
      obtain rfl : a = "" := by simpa using ha
      rw [if_neg emp_no]
      exact List.mem_cons_self
theorem mem_aft {r : Row} (h : okRow r) {y : Nat} (hy : y ∈ r.2) : ∃ a ∈ ansL r.1, y = aft r a := by
  obtain ⟨f, l⟩ := r
  unfold okRow at h
  unfold ansL aft
  simp only at h hy ⊢
  cases c : f.two with
  | true =>
    rw [c, if_pos rfl] at h
    match l, h with
    | [u, v], _ =>
      simp only [List.mem_cons, List.not_mem_nil, or_false] at hy
      rcases hy with rfl | rfl
      · exact ⟨"yes", by simp, by rw [if_neg yes_no]; rfl⟩
      · exact ⟨"no", by simp, by rw [if_pos rfl]; rfl⟩
  | false =>
    rw [c, if_neg (by decide)] at h
    match l, h with
    | [u], _ =>
      simp only [List.mem_cons, List.not_mem_nil, or_false] at hy
      subst hy
      exact ⟨"", by simp, by rw [if_neg emp_no]; rfl⟩
theorem aft_map {r : Row} (h : okRow r) {a : Str} (ha : a ∈ ansL r.1) (f : Nat → Nat) : aft (mp f r) a = f (aft r a) := by
  obtain ⟨g, l⟩ := r
  unfold okRow at h
  unfold ansL at ha
  unfold aft mp
  simp only at h ha ⊢
  cases c : g.two with
  | true =>
    rw [c, if_pos rfl] at h
    match l, h with
    | [u, v], _ => split <;> rfl
  | false =>
    rw [c, if_neg (by decide)] at h ha
    match l, h with
    | [u], _ =>
      obtain rfl : a = "" := by simpa using ha
      rw [if_neg emp_no, if_neg emp_no]
      rfl

section
variable {R R' : List Row} {e : Str} {x y z : Nat}
theorem must_of {r : Row} (h : R[x]? = some r) : must R e x = r.1.conc e := by unfold must; rw [h]
theorem must_none (h : R[x]? = none) : must R e x = true := by unfold must; rw [h]
theorem PReach.fst (ok : ∀ r ∈ R, okRow r) (h : PReach R e x y) (p : Eps R e x z) : PReach R e z y := by
  induction p with
  | refl => exact h
  | step h1 h2 h3 _ ih =>
    refine ih ?_
    obtain ⟨a, ha, rfl⟩ := mem_aft (ok _ (List.mem_of_getElem? h1)) h3
    refine PReach.go (g := (_, y)) h ?_
    unfold steps
    rw [if_pos (by rw [must_of h1, h2]), h1]
    exact List.mem_map.mpr ⟨a, ha, rfl⟩
theorem PReach.snd (ok : ∀ r ∈ R, okRow r) (h : PReach R e x y) (hx : must R e x = true) (p : Eps R e y z) : PReach R e x z := by
  induction p with
  | refl => exact h
  | step h1 h2 h3 _ ih =>
    refine ih ?_
    obtain ⟨a, ha, rfl⟩ := mem_aft (ok _ (List.mem_of_getElem? h1)) h3
    refine PReach.go (g := (x, _)) h ?_
    unfold steps
    rw [if_neg (by rw [hx]; decide), if_pos (by rw [must_of h1, h2]), h1]
    exact List.mem_map.mpr ⟨a, ha, rfl⟩
theorem PReach.both {r q : Row} {a b : Str} (h : PReach R e x y) (hr : R[x]? = some r) (hq : R[y]? = some q) (cr : r.1.conc e = true) (cq : q.1.conc e = true) (ha : a ∈ ansL r.1) (hb : b ∈ ansL q.1)
    (hl : lk e x r.1 a = lk e y q.1 b) : PReach R e (aft r a) (aft q b) := by
  refine PReach.go (g := (aft r a, aft q b)) h ?_
  unfold steps
  rw [if_neg (by rw [must_of hr, cr]; decide), if_neg (by rw [must_of hq, cq]; decide), hr, hq]
  exact List.mem_flatMap.mpr ⟨a, ha, List.mem_map.mpr ⟨b, List.mem_filter.mpr ⟨hb, decide_eq_true hl⟩, rfl⟩⟩
end

/-- R' does what R does, up to silent steps; f: where a place of R stands in R', p: the same for all statements -/
structure Sim (R R' : List Row) (e : Str) (f p : Nat → Nat) : Prop where
  start : Eps R' e 0 (f 0)
  silent : ∀ x r y, R[x]? = some r → r.1.conc e = false → y ∈ r.2 → Eps R' e (f x) (f y)
  same : ∀ x, must R e x = true → f x = p x
  act : ∀ x r, R[x]? = some r → r.1.conc e = true → ∃ r', R'[p x]? = some r' ∧ r'.1 = r.1 ∧ ∀ a ∈ ansL r.1, Eps R' e (aft r' a) (f (aft r a))
  fin : ∀ x, R[x]? = none → R'[p x]? = none
  inj : ∀ x y, p x = p y → x = y

theorem lk_move {e : Str} {p : Nat → Nat} (x y : Nat) (f g : FS) (a b : Str) (h : lk e x f a = lk e y g b) : lk e (p x) f a = lk e (p y) g b := by
  cases f <;> cases g <;> simp only [lk] at h ⊢ <;> first
    | exact h
    | (exfalso; cases h; done)
    | (injection h with h1 h2 h3; rw [h1, h2, h3])
    | (split at h <;> simp_all)
theorem lk_back {e : Str} {p : Nat → Nat} (inj : ∀ x y, p x = p y → x = y) (x y : Nat) (f g : FS) (a b : Str) (h : lk e (p x) f a = lk e (p y) g b) : lk e x f a = lk e y g b := by
  cases f <;> cases g <;> simp only [lk] at h ⊢ <;> first
    | exact h
    | (exfalso; cases h; done)
    | (injection h with h1 h2 h3; rw [inj _ _ h1, h2, h3])
    | (split at h <;> simp_all)
theorem agL_move {e : Str} {p : Nat → Nat} (inj : ∀ x y, p x = p y → x = y) (x y : Nat) (f g : FS) (a b : Str) : agL (lk e (p x) f a) (lk e (p y) g b) = agL (lk e x f a) (lk e y g b) := by
  have key : decide (lk e (p x) f a = lk e (p y) g b) = decide (lk e x f a = lk e y g b) := by
    by_cases h : lk e x f a = lk e y g b
    · rw [decide_eq_true h, decide_eq_true (lk_move x y f g a b h)]
    · rw [decide_eq_false h, decide_eq_false (fun q => h (lk_back inj x y f g a b q))]
  cases f <;> cases g <;> simp only [lk] at key ⊢ <;> first
    | rfl
    | (simp only [agL]; exact key)
    | (split <;> first | rfl | (split <;> first | rfl | (simp only [agL]; first | done | exact key)))

section
variable {R R' : List Row} {e : Str} {f p : Nat → Nat}
theorem Sim.must (S : Sim R R' e f p) {x : Nat} (h : must R e x = true) : K34.must R' e (p x) = true := by
  cases q : R[x]? with
  | none => exact must_none (S.fin x q)
  | some r =>
    rw [must_of q] at h
    obtain ⟨r', h1, h2, _⟩ := S.act x r q h
    rw [must_of h1, h2, h]
theorem Sim.reach (ok : ∀ r ∈ R, okRow r) (ok' : ∀ r ∈ R', okRow r) (S : Sim R R' e f p) {x y : Nat} (h : PReach R e x y) : ∃ u v, PReach R' e u v ∧ Eps R' e u (f x) ∧ Eps R' e v (f y) := by
  induction h with
  | start => exact ⟨0, 0, .start, S.start, S.start⟩
  | @go x y g _ hg ih =>
    obtain ⟨u, v, h0, hu, hv⟩ := ih
    unfold steps at hg
    cases cx : K34.must R e x with
    | false =>
      rw [cx, if_pos rfl] at hg
      cases q : R[x]? with
      | none => rw [q] at hg; cases hg
      | some r =>
        rw [q] at hg
        obtain ⟨a, ha, rfl⟩ := List.mem_map.mp hg
        rw [must_of q] at cx
        exact ⟨u, v, h0, hu.trans (S.silent x r _ q cx (aft_mem (ok _ (List.mem_of_getElem? q)) ha)), hv⟩
    | true =>
      rw [cx, if_neg (by decide)] at hg
      cases cy : K34.must R e y with
      | false =>
        rw [cy, if_pos rfl] at hg
        cases q : R[y]? with
        | none => rw [q] at hg; cases hg
        | some r =>
          rw [q] at hg
          obtain ⟨a, ha, rfl⟩ := List.mem_map.mp hg
          rw [must_of q] at cy
          exact ⟨u, v, h0, hu, hv.trans (S.silent y r _ q cy (aft_mem (ok _ (List.mem_of_getElem? q)) ha))⟩
      | true =>
        rw [cy, if_neg (by decide)] at hg
        cases q : R[x]? with
        | none => rw [q] at hg; cases hg
        | some r =>
          cases q2 : R[y]? with
          | none => rw [q, q2] at hg; cases hg
          | some t =>
            rw [q, q2] at hg
            obtain ⟨a, ha, hg⟩ := List.mem_flatMap.mp hg
            obtain ⟨b, hb, rfl⟩ := List.mem_map.mp hg
            obtain ⟨hb, hl⟩ := List.mem_filter.mp hb
            have hl := of_decide_eq_true hl
            have mx := S.must cx
            rw [S.same x cx] at hu
            rw [S.same y cy] at hv
            have h1 := (h0.fst ok' hu).snd ok' mx hv
            rw [must_of q] at cx
            rw [must_of q2] at cy
            obtain ⟨r', r1, r2, r3⟩ := S.act x r q cx
            obtain ⟨t', t1, t2, t3⟩ := S.act y t q2 cy
            have h2 := h1.both (a := a) (b := b) r1 t1 (by rw [r2, cx]) (by rw [t2, cy]) (by rw [r2]; exact ha) (by rw [t2]; exact hb) (by rw [r2, t2]; exact lk_move x y _ _ a b hl)
            exact ⟨_, _, h2, r3 a ha, t3 b hb⟩
theorem Sim.bad (ok : ∀ r ∈ R, okRow r) (ok' : ∀ r ∈ R', okRow r) (S : Sim R R' e f p) (h : Bad R e) : Bad R' e := by
  obtain ⟨x, y, hr, mx, my, ha⟩ := h
  obtain ⟨u, v, h0, hu, hv⟩ := S.reach ok ok' hr
  rw [S.same x mx] at hu
  rw [S.same y my] at hv
  refine ⟨p x, p y, (h0.fst ok' hu).snd ok' (S.must mx) hv, S.must mx, S.must my, ?_⟩
  unfold agr at ha ⊢
  by_cases c : x = y
  · rw [if_pos c] at ha; cases ha
  · rw [if_neg c] at ha
    rw [if_neg fun z => c (S.inj x y z)]
    cases q : R[x]? with
    | none => rw [S.fin x q]
    | some r =>
      cases q2 : R[y]? with
      | none => rw [S.fin y q2]; split <;> first | rfl | (rename_i z; cases z)
      | some t =>
        rw [q, q2] at ha
        rw [must_of q] at mx
        rw [must_of q2] at my
        obtain ⟨r', r1, r2, _⟩ := S.act x r q mx
        obtain ⟨t', t1, t2, _⟩ := S.act y t q2 my
        rw [r1, t1]
        show agL (lk e (p x) r'.1 "") (lk e (p y) t'.1 "") = false
        rw [r2, t2, agL_move S.inj]
        exact ha
end
end K34

/-! The two layouts simulate each other. -/
namespace K34
open PySem

/-- where the statements stand behind the exchange of a part of u places at q with the next v places -/
def pi (q u v x : Nat) : Nat := if q ≤ x ∧ x < q + u then x + v else if q + u ≤ x ∧ x < q + u + v then x - u else x
theorem pi_inj (q u v : Nat) {x y : Nat} (h : pi q u v x = pi q u v y) : x = y := by
  unfold pi at h
  split at h <;> split at h <;> first
    | omega
    | (split at h <;> first | omega | (split at h <;> omega))

theorem get_pre {pre m post : List Row} {x : Nat} (h : x < pre.length) : (pre ++ m ++ post)[x]? = pre[x]? := by
  rw [List.append_assoc, List.getElem?_append_left h]
theorem get_post {pre m post : List Row} {x : Nat} (h : pre.length + m.length ≤ x) : (pre ++ m ++ post)[x]? = post[x - (pre.length + m.length)]? := by
  rw [List.getElem?_append_right (by simp; omega)]
  simp

section
variable {pre post : List Row} {a b : Stm} {h : Nat} {e : Str}
/-- what is known of the two layouts at a place -/
theorem places (hh : h < pre.length ∨ pre.length + a.sz + b.sz ≤ h) (out : ∀ r, r ∈ pre ∨ r ∈ post → ∀ y ∈ r.2, y ≤ pre.length ∨ pre.length + a.sz + b.sz ≤ y) {x : Nat} {r : Row}
    (hr : (pre ++ (rowS pre.length (pre.length + a.sz) a ++ rowS (pre.length + a.sz) h b) ++ post)[x]? = some r) :
    ((x < pre.length ∨ pre.length + a.sz + b.sz ≤ x) ∧ (pre ++ (rowS pre.length (pre.length + b.sz) b ++ rowS (pre.length + b.sz) h a) ++ post)[x]? = some r ∧ ∀ y ∈ r.2, y ≤ pre.length ∨ pre.length + a.sz + b.sz ≤ y) ∨
    ((pre.length ≤ x ∧ x < pre.length + a.sz) ∧ r ∈ rowS pre.length (pre.length + a.sz) a ∧ (∀ y ∈ r.2, y = pre.length + a.sz ∨ (pre.length ≤ y ∧ y < pre.length + a.sz)) ∧
      (pre ++ (rowS pre.length (pre.length + b.sz) b ++ rowS (pre.length + b.sz) h a) ++ post)[x + b.sz]? = some (mp (fun y => if y = pre.length + a.sz then h else y + b.sz) r)) ∨
    ((pre.length + a.sz ≤ x ∧ x < pre.length + a.sz + b.sz) ∧ r ∈ rowS (pre.length + a.sz) h b ∧ (∀ y ∈ r.2, y = h ∨ (pre.length + a.sz ≤ y ∧ y < pre.length + a.sz + b.sz)) ∧
      (pre ++ (rowS pre.length (pre.length + b.sz) b ++ rowS (pre.length + b.sz) h a) ++ post)[x - a.sz]? = some (mp (fun y => if y = h then pre.length + b.sz else y - a.sz) r)) := by
  have la : ∀ u v, (rowS u v a).length = a.sz := fun u v => rowS_len a u v
  have lb : ∀ u v, (rowS u v b).length = b.sz := fun u v => rowS_len b u v
  by_cases c1 : x < pre.length
  · refine .inl ⟨.inl c1, ?_, ?_⟩
    · rw [get_pre c1] at hr ⊢; exact hr
    · rw [get_pre c1] at hr
      exact out r (.inl (List.mem_of_getElem? hr))
  by_cases c2 : pre.length + a.sz + b.sz ≤ x
  · have hr2 := hr
    rw [get_post (by simp only [List.length_append, la, lb]; omega)] at hr2
    simp only [List.length_append, la, lb] at hr2
    refine .inl ⟨.inr c2, ?_, ?_⟩
    · rw [get_post (by simp only [List.length_append, la, lb]; omega)]
      simp only [List.length_append, la, lb]
      rw [← hr2]
      congr 1; omega
    · exact out r (.inr (List.mem_of_getElem? hr2))
  by_cases c3 : x < pre.length + a.sz
  · have hr2 := hr
    rw [List.append_assoc, List.getElem?_append_right (by omega), List.append_assoc, List.getElem?_append_left (by rw [la]; omega)] at hr2
    have hm := List.mem_of_getElem? hr2
    refine .inr (.inl ⟨⟨by omega, c3⟩, hm, rowS_next a _ _ r hm, ?_⟩)
    rw [rowS_shift (fun y => if y = pre.length + a.sz then h else y + b.sz) a pre.length (pre.length + a.sz) (pre.length + b.sz) h (fun i hi => by
      show (if pre.length + i = pre.length + a.sz then h else pre.length + i + b.sz) = pre.length + b.sz + i
      rw [if_neg (by omega)]; omega) (by simp)]
    rw [List.append_assoc, List.getElem?_append_right (by omega), List.append_assoc, List.getElem?_append_right (by rw [lb]; omega), List.getElem?_append_left (by rw [List.length_map, la, lb]; omega), lb, List.getElem?_map]
    rw [show x + b.sz - pre.length - b.sz = x - pre.length by omega, hr2]
    rfl
  · have hr2 := hr
    rw [List.append_assoc, List.getElem?_append_right (by omega), List.append_assoc, List.getElem?_append_right (by rw [la]; omega), List.getElem?_append_left (by rw [la, lb]; omega), la] at hr2
    have hm := List.mem_of_getElem? hr2
    refine .inr (.inr ⟨⟨by omega, by omega⟩, hm, rowS_next b _ _ r hm, ?_⟩)
    rw [rowS_shift (fun y => if y = h then pre.length + b.sz else y - a.sz) b (pre.length + a.sz) h pre.length (pre.length + b.sz) (fun i hi => by
      show (if pre.length + a.sz + i = h then pre.length + b.sz else pre.length + a.sz + i - a.sz) = pre.length + i
      rw [if_neg (by omega)]; omega) (by simp)]
    rw [List.append_assoc, List.getElem?_append_right (by omega), List.append_assoc, List.getElem?_append_left (by rw [List.length_map, lb]; omega), List.getElem?_map]
    rw [show x - a.sz - pre.length = x - pre.length - a.sz by omega, hr2]
    rfl
theorem places_none {x : Nat} (hr : (pre ++ (rowS pre.length (pre.length + a.sz) a ++ rowS (pre.length + a.sz) h b) ++ post)[x]? = none) :
    pre.length + a.sz + b.sz ≤ x ∧ (pre ++ (rowS pre.length (pre.length + b.sz) b ++ rowS (pre.length + b.sz) h a) ++ post)[x]? = none := by
  rw [List.getElem?_eq_none_iff] at hr ⊢
  simp only [List.length_append, rowS_len] at hr ⊢
  omega

theorem ok_mid (okP : ∀ r, r ∈ pre ∨ r ∈ post → okRow r) : ∀ r ∈ pre ++ (rowS pre.length (pre.length + a.sz) a ++ rowS (pre.length + a.sz) h b) ++ post, okRow r := by
  intro r hr
  simp only [List.mem_append] at hr
  rcases hr with (hr | hr | hr) | hr
  · exact okP r (.inl hr)
  · exact rowS_ok a _ _ r hr
  · exact rowS_ok b _ _ r hr
  · exact okP r (.inr hr)

/-- the end has nothing to do with the first of the two -/
theorem sim_left (okP : ∀ r, r ∈ pre ∨ r ∈ post → okRow r) (hh : h < pre.length ∨ pre.length + a.sz + b.sz ≤ h) (out : ∀ r, r ∈ pre ∨ r ∈ post → ∀ y ∈ r.2, y ≤ pre.length ∨ pre.length + a.sz + b.sz ≤ y) (ea : e ∉ a.ends) :
    Sim (pre ++ (rowS pre.length (pre.length + a.sz) a ++ rowS (pre.length + a.sz) h b) ++ post) (pre ++ (rowS pre.length (pre.length + b.sz) b ++ rowS (pre.length + b.sz) h a) ++ post) e
      (fun x => if pre.length ≤ x ∧ x < pre.length + a.sz then pre.length else pi pre.length a.sz b.sz x) (pi pre.length a.sz b.sz) := by
  have pa := sz_pos a
  have pb := sz_pos b
  have okR := ok_mid (a := a) (b := b) (h := h) okP
  -- the silent way through a in the new layout
  have sg : Seg (pre ++ (rowS pre.length (pre.length + b.sz) b ++ rowS (pre.length + b.sz) h a) ++ post) (pre.length + b.sz) (rowS (pre.length + b.sz) h a) := by
    have := (seg_mid pre (rowS pre.length (pre.length + b.sz) b ++ rowS (pre.length + b.sz) h a) post).right
    rwa [rowS_len] at this
  have exA : Eps (pre ++ (rowS pre.length (pre.length + b.sz) b ++ rowS (pre.length + b.sz) h a) ++ post) e (pre.length + b.sz) h := by
    have := exitS (e := e) a _ _ sg (fun r hr => rowS_conc ea hr) 0 pa
    simpa using this
  have land : ∀ y, y ≤ pre.length ∨ pre.length + a.sz + b.sz ≤ y → (if pre.length ≤ y ∧ y < pre.length + a.sz then pre.length else pi pre.length a.sz b.sz y) = y := by
    intro y hy
    by_cases c : pre.length ≤ y ∧ y < pre.length + a.sz
    · rw [if_pos c]; omega
    · rw [if_neg c]; unfold pi; rw [if_neg c, if_neg (by omega)]
  refine ⟨?_, ?_, ?_, ?_, ?_, fun x y => pi_inj _ _ _⟩
  · show Eps _ e 0 (if pre.length ≤ 0 ∧ 0 < pre.length + a.sz then pre.length else pi pre.length a.sz b.sz 0)
    rw [land 0 (by omega)]
    exact .refl _
  · intro x r y hr hc hy
    show Eps _ e (if pre.length ≤ x ∧ x < pre.length + a.sz then pre.length else pi pre.length a.sz b.sz x) (if pre.length ≤ y ∧ y < pre.length + a.sz then pre.length else pi pre.length a.sz b.sz y)
    rcases places hh out hr with ⟨hx, h2, h3⟩ | ⟨hx, hm, h3, h4⟩ | ⟨hx, hm, h3, h4⟩
    · rw [land x (by omega), land y (h3 y hy)]
      exact .one h2 hc hy
    · rw [if_pos hx]
      rcases h3 y hy with rfl | hy2
      · rw [if_neg (by omega)]; unfold pi; rw [if_neg (by omega), if_pos (by omega), Nat.add_sub_cancel]
        exact .refl _
      · rw [if_pos hy2]; exact .refl _
    · have ex : (if pre.length ≤ x ∧ x < pre.length + a.sz then pre.length else pi pre.length a.sz b.sz x) = x - a.sz := by
        rw [if_neg (by omega)]; unfold pi; rw [if_neg (by omega), if_pos hx]
      rw [ex]
      have s1 : Eps (pre ++ (rowS pre.length (pre.length + b.sz) b ++ rowS (pre.length + b.sz) h a) ++ post) e (x - a.sz) (if y = h then pre.length + b.sz else y - a.sz) := .one h4 hc (List.mem_map.mpr ⟨y, hy, rfl⟩)
      rcases h3 y hy with q | hy2
      · rw [if_pos q] at s1
        rw [land y (by omega), q]
        exact s1.trans exA
      · rw [if_neg (by omega)] at s1
        rw [if_neg (by omega)]; unfold pi; rw [if_neg (by omega), if_pos hy2]
        exact s1
  · intro x hm
    show (if pre.length ≤ x ∧ x < pre.length + a.sz then pre.length else pi pre.length a.sz b.sz x) = pi pre.length a.sz b.sz x
    by_cases c : pre.length ≤ x ∧ x < pre.length + a.sz
    · exfalso
      cases q : (pre ++ (rowS pre.length (pre.length + a.sz) a ++ rowS (pre.length + a.sz) h b) ++ post)[x]? with
      | none => have := (places_none q).1; omega
      | some r =>
        rw [must_of q] at hm
        rcases places hh out q with ⟨hx, _⟩ | ⟨_, hm2, _⟩ | ⟨hx, _⟩
        · omega
        · rw [rowS_conc ea hm2] at hm; cases hm
        · omega
    · rw [if_neg c]
  · intro x r hr hc
    rcases places hh out hr with ⟨hx, h2, h3⟩ | ⟨hx, hm, h3, h4⟩ | ⟨hx, hm, h3, h4⟩
    · refine ⟨r, ?_, rfl, fun s hs => ?_⟩
      · have : pi pre.length a.sz b.sz x = x := by unfold pi; rw [if_neg (by omega), if_neg (by omega)]
        rw [this]; exact h2
      · show Eps _ e (aft r s) (if pre.length ≤ aft r s ∧ aft r s < pre.length + a.sz then pre.length else pi pre.length a.sz b.sz (aft r s))
        rw [land _ (h3 _ (aft_mem (okR r (List.mem_of_getElem? hr)) hs))]
        exact .refl _
    · rw [rowS_conc ea hm] at hc; cases hc
    · refine ⟨mp (fun y => if y = h then pre.length + b.sz else y - a.sz) r, ?_, rfl, fun s hs => ?_⟩
      · have : pi pre.length a.sz b.sz x = x - a.sz := by unfold pi; rw [if_neg (by omega), if_pos hx]
        rw [this]; exact h4
      · have okr := okR r (List.mem_of_getElem? hr)
        rw [aft_map okr hs]
        show Eps _ e (if aft r s = h then pre.length + b.sz else aft r s - a.sz) (if pre.length ≤ aft r s ∧ aft r s < pre.length + a.sz then pre.length else pi pre.length a.sz b.sz (aft r s))
        rcases h3 _ (aft_mem okr hs) with q | q
        · rw [if_pos q, q, land h (by omega)]
          exact exA
        · rw [if_neg (by omega), if_neg (by omega)]; unfold pi; rw [if_neg (by omega), if_pos q]
          exact .refl _
  · intro x hx
    obtain ⟨h1, h2⟩ := places_none hx
    have : pi pre.length a.sz b.sz x = x := by unfold pi; rw [if_neg (by omega), if_neg (by omega)]
    rw [this]; exact h2

/-- the end has nothing to do with the second of the two -/
theorem sim_right (okP : ∀ r, r ∈ pre ∨ r ∈ post → okRow r) (hh : h < pre.length ∨ pre.length + a.sz + b.sz ≤ h) (out : ∀ r, r ∈ pre ∨ r ∈ post → ∀ y ∈ r.2, y ≤ pre.length ∨ pre.length + a.sz + b.sz ≤ y) (eb : e ∉ b.ends) :
    Sim (pre ++ (rowS pre.length (pre.length + a.sz) a ++ rowS (pre.length + a.sz) h b) ++ post) (pre ++ (rowS pre.length (pre.length + b.sz) b ++ rowS (pre.length + b.sz) h a) ++ post) e
      (fun x => if pre.length + a.sz ≤ x ∧ x < pre.length + a.sz + b.sz then h else pi pre.length a.sz b.sz x) (pi pre.length a.sz b.sz) := by
  have pa := sz_pos a
  have pb := sz_pos b
  have okR := ok_mid (a := a) (b := b) (h := h) okP
  -- the silent way through b in the new layout
  have sg : Seg (pre ++ (rowS pre.length (pre.length + b.sz) b ++ rowS (pre.length + b.sz) h a) ++ post) pre.length (rowS pre.length (pre.length + b.sz) b) :=
    (seg_mid pre (rowS pre.length (pre.length + b.sz) b ++ rowS (pre.length + b.sz) h a) post).left
  have exB : Eps (pre ++ (rowS pre.length (pre.length + b.sz) b ++ rowS (pre.length + b.sz) h a) ++ post) e pre.length (pre.length + b.sz) := by
    have := exitS (e := e) b _ _ sg (fun r hr => rowS_conc eb hr) 0 pb
    simpa using this
  have land : ∀ y, y ≤ pre.length ∨ pre.length + a.sz + b.sz ≤ y → Eps (pre ++ (rowS pre.length (pre.length + b.sz) b ++ rowS (pre.length + b.sz) h a) ++ post) e y (if pre.length + a.sz ≤ y ∧ y < pre.length + a.sz + b.sz then h else pi pre.length a.sz b.sz y) := by
    intro y hy
    rw [if_neg (by omega)]
    unfold pi
    by_cases c : y = pre.length
    · subst c
      rw [if_pos (by omega)]
      exact exB
    · rw [if_neg (by omega), if_neg (by omega)]
      exact .refl _
  refine ⟨?_, ?_, ?_, ?_, ?_, fun x y => pi_inj _ _ _⟩
  · exact land 0 (by omega)
  · intro x r y hr hc hy
    show Eps _ e (if pre.length + a.sz ≤ x ∧ x < pre.length + a.sz + b.sz then h else pi pre.length a.sz b.sz x) (if pre.length + a.sz ≤ y ∧ y < pre.length + a.sz + b.sz then h else pi pre.length a.sz b.sz y)
    rcases places hh out hr with ⟨hx, h2, h3⟩ | ⟨hx, hm, h3, h4⟩ | ⟨hx, hm, h3, h4⟩
    · have ex : (if pre.length + a.sz ≤ x ∧ x < pre.length + a.sz + b.sz then h else pi pre.length a.sz b.sz x) = x := by
        rw [if_neg (by omega)]; unfold pi; rw [if_neg (by omega), if_neg (by omega)]
      rw [ex]
      exact (Eps.one h2 hc hy).trans (land y (h3 y hy))
    · have ex : (if pre.length + a.sz ≤ x ∧ x < pre.length + a.sz + b.sz then h else pi pre.length a.sz b.sz x) = x + b.sz := by
        rw [if_neg (by omega)]; unfold pi; rw [if_pos hx]
      rw [ex]
      have s1 : Eps (pre ++ (rowS pre.length (pre.length + b.sz) b ++ rowS (pre.length + b.sz) h a) ++ post) e (x + b.sz) (if y = pre.length + a.sz then h else y + b.sz) := .one h4 hc (List.mem_map.mpr ⟨y, hy, rfl⟩)
      rcases h3 y hy with q | q
      · rw [if_pos q] at s1
        rw [if_pos (by omega)]
        exact s1
      · rw [if_neg (by omega)] at s1
        rw [if_neg (by omega)]; unfold pi; rw [if_pos q]
        exact s1
    · rw [if_pos hx]
      rcases h3 y hy with q | q
      · have ey : (if pre.length + a.sz ≤ y ∧ y < pre.length + a.sz + b.sz then h else pi pre.length a.sz b.sz y) = (if pre.length + a.sz ≤ h ∧ h < pre.length + a.sz + b.sz then h else pi pre.length a.sz b.sz h) := by rw [q]
        have l := land h (by omega)
        rw [ey]
        exact l
      · rw [if_pos q]; exact .refl _
  · intro x hm
    show (if pre.length + a.sz ≤ x ∧ x < pre.length + a.sz + b.sz then h else pi pre.length a.sz b.sz x) = pi pre.length a.sz b.sz x
    by_cases c : pre.length + a.sz ≤ x ∧ x < pre.length + a.sz + b.sz
    · exfalso
      cases q : (pre ++ (rowS pre.length (pre.length + a.sz) a ++ rowS (pre.length + a.sz) h b) ++ post)[x]? with
      | none => have := (places_none q).1; omega
      | some r =>
        rw [must_of q] at hm
        rcases places hh out q with ⟨hx, _⟩ | ⟨hx, _⟩ | ⟨_, hm2, _⟩
        · omega
        · omega
        · rw [rowS_conc eb hm2] at hm; cases hm
    · rw [if_neg c]
  · intro x r hr hc
    rcases places hh out hr with ⟨hx, h2, h3⟩ | ⟨hx, hm, h3, h4⟩ | ⟨hx, hm, h3, h4⟩
    · refine ⟨r, ?_, rfl, fun s hs => land _ (h3 _ (aft_mem (okR r (List.mem_of_getElem? hr)) hs))⟩
      have : pi pre.length a.sz b.sz x = x := by unfold pi; rw [if_neg (by omega), if_neg (by omega)]
      rw [this]; exact h2
    · refine ⟨mp (fun y => if y = pre.length + a.sz then h else y + b.sz) r, ?_, rfl, fun s hs => ?_⟩
      · have : pi pre.length a.sz b.sz x = x + b.sz := by unfold pi; rw [if_pos hx]
        rw [this]; exact h4
      · have okr := okR r (List.mem_of_getElem? hr)
        rw [aft_map okr hs]
        show Eps _ e (if aft r s = pre.length + a.sz then h else aft r s + b.sz) (if pre.length + a.sz ≤ aft r s ∧ aft r s < pre.length + a.sz + b.sz then h else pi pre.length a.sz b.sz (aft r s))
        rcases h3 _ (aft_mem okr hs) with q | q
        · rw [if_pos q, if_pos (by omega)]
          exact .refl _
        · rw [if_neg (by omega), if_neg (by omega)]; unfold pi; rw [if_pos q]
          exact .refl _
    · rw [rowS_conc eb hm] at hc; cases hc
  · intro x hx
    obtain ⟨h1, h2⟩ := places_none hx
    have : pi pre.length a.sz b.sz x = x := by unfold pi; rw [if_neg (by omega), if_neg (by omega)]
    rw [this]; exact h2
end

/-- THE LAW of clearness: an exchange makes no clear score unclear -/
theorem Xch.bad {B B' : List Stm} (hx : Xch B B') {e : Str} (hb : Bad (rowB 0 (szB B) B) e) : Bad (rowB 0 (szB B') B') e := by
  obtain ⟨pre, post, a, b, q, h, d, e1, e2, e3, e4, e5⟩ := hx.split 0 (szB B) (by omega)
  rw [hx.sz, e2]
  have okB : ∀ r ∈ rowB 0 (szB B) B, okRow r := rowB_ok B _ _
  have okB' : ∀ r ∈ rowB 0 (szB B) B', okRow r := rowB_ok B' _ _
  have eq : q = pre.length := by omega
  subst eq
  rw [e1] at hb okB
  rw [e2] at okB'
  have okP : ∀ r, r ∈ pre ∨ r ∈ post → okRow r := fun r hr => okB r (by simp only [List.mem_append]; rcases hr with hr | hr <;> simp [hr])
  by_cases ea : e ∈ a.ends
  · exact (sim_right okP e4 e5 (d e ea)).bad okB okB' hb
  · exact (sim_left okP e4 e5 ea).bad okB okB' hb
theorem Xch.clear {B B' : List Stm} (hx : Xch B B') (e : Str) : Bad (rowB 0 (szB B) B) e ↔ Bad (rowB 0 (szB B') B') e := ⟨hx.bad, hx.symm.bad⟩
end K34

/-! The plain run of a tree, and that an exchange changes no end's row but for places. -/
namespace K34
open PySem

abbrev BIG : Int := 4294967296
def num (m : Str → Int) : Val → Int
  | .num n => n
  | .nam x => m x
  | .op s l r => if s = ("<" : Str) then (if num m l < num m r then 1 else 0) else if s = ("==" : Str) then (if num m l = num m r then 1 else 0)
      else if s = ("+" : Str) then (num m l + num m r) % BIG else if s = ("-" : Str) then (num m l - num m r) % BIG else (num m l * num m r) % BIG

inductive Deed where
  | send (f t l : Str) (n : Int)
  | get (t f l : Str) (n : Int)
  | set (e x : Str) (n : Int)
  | ask (e x : Str) (n : Int)
  | ite (e : Str) (b : Bool)
  | whl (e : Str) (p : Nat) (b : Bool)
def Deed.who : Deed → Str
  | .send f _ _ _ => f
  | .get t _ _ _ => t
  | .set e _ _ => e
  | .ask e _ _ => e
  | .ite e _ => e
  | .whl e _ _ => e
def Deed.bare : Deed → Deed
  | .whl e _ b => .whl e 0 b
  | d => d

structure Wd where
  vars : Str → Str → Int
  left : Str → List Int
  deeds : List Deed
def Wd.say (w : Wd) (ds : List Deed) : Wd := { w with deeds := w.deeds ++ ds }
def Wd.put (w : Wd) (e x : Str) (n : Int) : Wd := { w with vars := fun a y => if a = e ∧ y = x then n else w.vars a y }
def Wd.take (w : Wd) (e : Str) : Wd := { w with left := fun a => if a = e then (w.left a).tail else w.left a }

def whLoop (c : Wd → Bool) (yes no f : Wd → Wd) : Nat → Wd → Wd
  | 0, w => no w
  | k + 1, w => if c w = true then whLoop c yes no f k (f (yes w)) else no w

mutual
def runS : Stm → Nat → Wd → Wd
  | .msg f t l v x, _, w => (w.say [.send f t l (num (w.vars f) v), .get t f l (num (w.vars f) v)]).put t x (num (w.vars f) v)
  | .set e x v, _, w => (w.put e x (num (w.vars e) v)).say [.set e x (num (w.vars e) v)]
  | .ask e x, _, w => ((w.take e).put e x ((w.left e).headD 0)).say [.ask e x ((w.left e).headD 0)]
  | .ite e v y n, p, w => if num (w.vars e) v ≠ 0 then runB y (p + 1) (w.say [.ite e true]) else runB n (p + 1 + szB y) (w.say [.ite e false])
  | .whl e v b, p, w => whLoop (fun w => decide (num (w.vars e) v ≠ 0)) (fun w => w.say [.whl e p true]) (fun w => w.say [.whl e p false]) (runB b (p + 1)) 8 w
  | .call _ _, _, w => w
def runB : List Stm → Nat → Wd → Wd
  | [], _, w => w
  | s :: r, p, w => runB r (p + s.sz) (runS s p w)
end

theorem runB_append (a b : List Stm) : ∀ (p : Nat) (w : Wd), runB (a ++ b) p w = runB b (p + szB a) (runB a p w) := by
  induction a with
  | nil => intro p w; simp [runB, szB]
  | cons s r ih => intro p w; simp [runB, szB, ih, Nat.add_assoc]

/-- what an end has: its variables, its inputs, its row without places -/
structure Vw where
  vars : Str → Int
  left : List Int
  row : List Deed
def vw (w : Wd) (e : Str) : Vw := ⟨w.vars e, w.left e, (w.deeds.filter fun d => decide (d.who = e)).map Deed.bare⟩
theorem vw_say (w : Wd) (ds : List Deed) (e : Str) : vw (w.say ds) e = { vw w e with row := (vw w e).row ++ (ds.filter fun d => decide (d.who = e)).map Deed.bare } := by
  simp [vw, Wd.say, List.filter_append]
theorem vw_put (w : Wd) (a x : Str) (n : Int) (e : Str) : vw (w.put a x n) e = if e = a then { vw w e with vars := fun y => if y = x then n else (vw w e).vars y } else vw w e := by
  unfold vw Wd.put
  by_cases c : e = a
  · subst c; simp
  · simp [c]
theorem vw_take (w : Wd) (a : Str) (e : Str) : vw (w.take a) e = if e = a then { vw w e with left := (vw w e).left.tail } else vw w e := by
  unfold vw Wd.take
  by_cases c : e = a
  · subst c; simp
  · simp [c]
theorem vw_say_of {w w' : Wd} {ds ds' : List Deed} {e : Str} (h : vw w e = vw w' e) (hd : (ds.filter fun d => decide (d.who = e)).map Deed.bare = (ds'.filter fun d => decide (d.who = e)).map Deed.bare) : vw (w.say ds) e = vw (w'.say ds') e := by
  rw [vw_say, vw_say, h, hd]
theorem vw_put_of {w w' : Wd} {a x e : Str} {n : Int} (h : vw w e = vw w' e) : vw (w.put a x n) e = vw (w'.put a x n) e := by
  rw [vw_put, vw_put, h]
theorem vw_take_of {w w' : Wd} {a e : Str} (h : vw w e = vw w' e) : vw (w.take a) e = vw (w'.take a) e := by
  rw [vw_take, vw_take, h]
theorem vars_of {w w' : Wd} {e : Str} (h : vw w e = vw w' e) : w.vars e = w'.vars e := congrArg Vw.vars h
theorem left_of {w w' : Wd} {e : Str} (h : vw w e = vw w' e) : w.left e = w'.left e := congrArg Vw.left h

theorem bare_whl (e z : Str) (p p' : Nat) (b : Bool) : (([Deed.whl e p b] : List Deed).filter fun d => decide (d.who = z)).map Deed.bare = (([Deed.whl e p' b] : List Deed).filter fun d => decide (d.who = z)).map Deed.bare := by
  by_cases h : e = z <;> simp [Deed.who, h, Deed.bare]
def Ag (E : List Str) (w w' : Wd) : Prop := ∀ z, z ∈ E → vw w z = vw w' z
def endsB (b : List Stm) : List Str := (allB b).flatMap Stm.ends1
theorem ends_ite {e : Str} {v : Val} {y n : List Stm} : (Stm.ite e v y n).ends = e :: (endsB y ++ endsB n) := by
  simp [Stm.ends, Stm.all, endsB, Stm.ends1, List.flatMap_append]
theorem ends_whl {e : Str} {v : Val} {b : List Stm} : (Stm.whl e v b).ends = e :: endsB b := by
  simp [Stm.ends, Stm.all, endsB, Stm.ends1]
theorem endsB_cons {s : Stm} {r : List Stm} : endsB (s :: r) = s.ends ++ endsB r := by
  simp [endsB, allB, Stm.ends, List.flatMap_append]

theorem whLoop_ag {E : List Str} {c c' : Wd → Bool} {yes yes' no no' f f' : Wd → Wd} (hc : ∀ w w', Ag E w w' → c w = c' w') (hy : ∀ w w', Ag E w w' → Ag E (yes w) (yes' w')) (hn : ∀ w w', Ag E w w' → Ag E (no w) (no' w'))
    (hf : ∀ w w', Ag E w w' → Ag E (f w) (f' w')) : ∀ (k : Nat) (w w' : Wd), Ag E w w' → Ag E (whLoop c yes no f k w) (whLoop c' yes' no' f' k w')
  | 0, w, w', h => hn w w' h
  | k + 1, w, w', h => by
    simp only [whLoop, hc w w' h]
    by_cases q : c' w' = true
    · rw [if_pos q, if_pos q]
      exact whLoop_ag hc hy hn hf k _ _ (hf _ _ (hy _ _ h))
    · rw [if_neg q, if_neg q]
      exact hn w w' h
theorem whLoop_keep {P : Wd → Wd → Prop} (hr : ∀ w, P w w) (ht : ∀ a b c, P a b → P b c → P a c) {c : Wd → Bool} {yes no f : Wd → Wd} (hy : ∀ w, P w (yes w)) (hn : ∀ w, P w (no w)) (hf : ∀ w, P w (f w)) :
    ∀ (k : Nat) (w : Wd), P w (whLoop c yes no f k w)
  | 0, w => hn w
  | k + 1, w => by
    simp only [whLoop]
    split
    · exact ht _ _ _ (ht _ _ _ (hy w) (hf _)) (whLoop_keep hr ht hy hn hf k _)
    · exact hn w

mutual
theorem runS_ag {E : List Str} : ∀ (s : Stm), (∀ e ∈ s.ends, e ∈ E) → ∀ (p p' : Nat) (w w' : Wd), Ag E w w' → Ag E (runS s p w) (runS s p' w')
  | .msg f t l v x, hE, p, p', w, w', h => by
    have hf : w.vars f = w'.vars f := vars_of (h f (hE f (by simp [Stm.ends, Stm.all, Stm.ends1])))
    intro z hz
    simp only [runS, hf]
    exact vw_put_of (vw_say_of (h z hz) rfl)
  | .set e x v, hE, p, p', w, w', h => by
    have hf : w.vars e = w'.vars e := vars_of (h e (hE e (by simp [Stm.ends, Stm.all, Stm.ends1])))
    intro z hz
    simp only [runS, hf]
    exact vw_say_of (vw_put_of (h z hz)) rfl
  | .ask e x, hE, p, p', w, w', h => by
    have hf : w.left e = w'.left e := left_of (h e (hE e (by simp [Stm.ends, Stm.all, Stm.ends1])))
    intro z hz
    simp only [runS, hf]
    exact vw_say_of (vw_put_of (vw_take_of (h z hz))) rfl
  | .ite e v y n, hE, p, p', w, w', h => by
    rw [ends_ite] at hE
    have hf : w.vars e = w'.vars e := vars_of (h e (hE e (by simp)))
    simp only [runS, hf]
    split
    · exact runB_ag y (fun x hx => hE x (by simp [hx])) _ _ _ _ fun z hz => vw_say_of (h z hz) rfl
    · exact runB_ag n (fun x hx => hE x (by simp [hx])) _ _ _ _ fun z hz => vw_say_of (h z hz) rfl
  | .whl e v b, hE, p, p', w, w', h => by
    rw [ends_whl] at hE
    simp only [runS]
    refine whLoop_ag (fun w w' h => ?_) (fun w w' h z hz => vw_say_of (h z hz) ?_) (fun w w' h z hz => vw_say_of (h z hz) ?_) (fun w w' h => runB_ag b (fun x hx => hE x (by simp [hx])) _ _ _ _ h) 8 w w' h
    · rw [vars_of (h e (hE e (by simp)))]
    · exact bare_whl _ _ _ _ _
    · exact bare_whl _ _ _ _ _
  | .call _ _, hE, p, p', w, w', h => by simp only [runS]; exact h
theorem runB_ag {E : List Str} : ∀ (b : List Stm), (∀ e ∈ endsB b, e ∈ E) → ∀ (p p' : Nat) (w w' : Wd), Ag E w w' → Ag E (runB b p w) (runB b p' w')
  | [], hE, p, p', w, w', h => by simp only [runB]; exact h
  | s :: r, hE, p, p', w, w', h => by
    rw [endsB_cons] at hE
    simp only [runB]
    exact runB_ag r (fun x hx => hE x (by simp [hx])) _ _ _ _ (runS_ag s (fun x hx => hE x (by simp [hx])) _ _ _ _ h)
end
mutual
theorem runS_out {z : Str} : ∀ (s : Stm), z ∉ s.ends → ∀ (p : Nat) (w : Wd), vw (runS s p w) z = vw w z
  | .msg f t l v x, hE, p, w => by
    simp only [Stm.ends, Stm.all, Stm.ends1, List.flatMap_cons, List.flatMap_nil, List.append_nil, List.mem_cons, List.not_mem_nil, or_false, not_or] at hE
    have h1 : ¬ f = z := fun q => hE.1 q.symm
    have h2 : ¬ t = z := fun q => hE.2 q.symm
    simp [runS, vw_put, vw_say, hE.2, Deed.who, h1, h2]
  | .set e x v, hE, p, w => by
    simp only [Stm.ends, Stm.all, Stm.ends1, List.flatMap_cons, List.flatMap_nil, List.append_nil, List.mem_cons, List.not_mem_nil, or_false] at hE
    have h1 : ¬ e = z := fun q => hE q.symm
    simp [runS, vw_put, vw_say, hE, Deed.who, h1]
  | .ask e x, hE, p, w => by
    simp only [Stm.ends, Stm.all, Stm.ends1, List.flatMap_cons, List.flatMap_nil, List.append_nil, List.mem_cons, List.not_mem_nil, or_false] at hE
    have h1 : ¬ e = z := fun q => hE q.symm
    simp [runS, vw_put, vw_say, vw_take, hE, Deed.who, h1]
  | .ite e v y n, hE, p, w => by
    rw [ends_ite] at hE
    simp only [List.mem_cons, List.mem_append, not_or] at hE
    have h1 : ¬ e = z := fun q => hE.1 q.symm
    simp only [runS]
    split
    · rw [runB_out y hE.2.1]; simp [vw_say, Deed.who, h1]
    · rw [runB_out n hE.2.2]; simp [vw_say, Deed.who, h1]
  | .whl e v b, hE, p, w => by
    rw [ends_whl] at hE
    simp only [List.mem_cons, not_or] at hE
    have h1 : ¬ e = z := fun q => hE.1 q.symm
    simp only [runS]
    refine (whLoop_keep (P := fun a b => vw a z = vw b z) (fun _ => rfl) (fun _ _ _ h1 h2 => h1.trans h2) (fun w => ?_) (fun w => ?_) (fun w => (runB_out b hE.2 _ w).symm) 8 w).symm
    · simp [vw_say, Deed.who, h1]
    · simp [vw_say, Deed.who, h1]
  | .call _ _, hE, p, w => rfl
theorem runB_out {z : Str} : ∀ (b : List Stm), z ∉ endsB b → ∀ (p : Nat) (w : Wd), vw (runB b p w) z = vw w z
  | [], hE, p, w => rfl
  | s :: r, hE, p, w => by
    rw [endsB_cons] at hE
    simp only [List.mem_append, not_or] at hE
    simp only [runB]
    rw [runB_out r hE.2, runS_out s hE.1]
end

def AgA (w w' : Wd) : Prop := ∀ z, vw w z = vw w' z
theorem runB_aga (b : List Stm) (p p' : Nat) {w w' : Wd} (h : AgA w w') : AgA (runB b p w) (runB b p' w') := fun z =>
  runB_ag (E := z :: endsB b) b (fun e he => by simp [he]) p p' w w' (fun x _ => h x) z (by simp)
theorem runS_aga (s : Stm) (p p' : Nat) {w w' : Wd} (h : AgA w w') : AgA (runS s p w) (runS s p' w') := fun z =>
  runS_ag (E := z :: s.ends) s (fun e he => by simp [he]) p p' w w' (fun x _ => h x) z (by simp)
theorem swap_aga {a b : Stm} (d : dsj a b) (p q p' q' : Nat) {w w' : Wd} (h : AgA w w') : AgA (runS b q (runS a p w)) (runS a q' (runS b p' w')) := fun z => by
  by_cases ha : z ∈ a.ends
  · rw [runS_out b (d z ha)]
    refine runS_ag (E := a.ends) a (fun _ h => h) p q' w _ (fun x hx => ?_) z ha
    rw [runS_out b (d x hx)]; exact h x
  · rw [runS_out a ha]
    by_cases hb : z ∈ b.ends
    · refine runS_ag (E := b.ends) b (fun _ h => h) q p' _ w' (fun x hx => ?_) z hb
      rw [runS_out a (fun q => d x q hx)]; exact h x
    · rw [runS_out b hb, runS_out b hb, runS_out a ha]; exact h z
theorem whLoop_aga {c c' : Wd → Bool} {yes yes' no no' f f' : Wd → Wd} (hc : ∀ w w', AgA w w' → c w = c' w') (hy : ∀ w w', AgA w w' → AgA (yes w) (yes' w')) (hn : ∀ w w', AgA w w' → AgA (no w) (no' w'))
    (hf : ∀ w w', AgA w w' → AgA (f w) (f' w')) : ∀ (k : Nat) (w w' : Wd), AgA w w' → AgA (whLoop c yes no f k w) (whLoop c' yes' no' f' k w')
  | 0, w, w', h => hn w w' h
  | k + 1, w, w', h => by
    simp only [whLoop, hc w w' h]
    by_cases q : c' w' = true
    · rw [if_pos q, if_pos q]
      exact whLoop_aga hc hy hn hf k _ _ (hf _ _ (hy _ _ h))
    · rw [if_neg q, if_neg q]
      exact hn w w' h
/-- THE LAW of the rows -/
theorem Xch.rows {B B' : List Stm} (hx : Xch B B') : ∀ (p p' : Nat) (w w' : Wd), AgA w w' → AgA (runB B p w) (runB B' p' w') := by
  induction hx with
  | here pre post a b d =>
    intro p p' w w' h
    simp only [runB_append, runB]
    exact runB_aga post _ _ (swap_aga d _ _ _ _ (runB_aga pre _ _ h))
  | iteY pre post e v n hx ih =>
    intro p p' w w' h
    simp only [runB_append, runB]
    refine runB_aga post _ _ ?_
    have h1 := runB_aga pre p p' h
    simp only [runS, vars_of (h1 e)]
    split
    · exact ih _ _ _ _ fun z => vw_say_of (h1 z) rfl
    · exact runB_aga n _ _ fun z => vw_say_of (h1 z) rfl
  | iteN pre post e v y hx ih =>
    intro p p' w w' h
    simp only [runB_append, runB]
    refine runB_aga post _ _ ?_
    have h1 := runB_aga pre p p' h
    simp only [runS, vars_of (h1 e)]
    split
    · exact runB_aga y _ _ fun z => vw_say_of (h1 z) rfl
    · exact ih _ _ _ _ fun z => vw_say_of (h1 z) rfl
  | whl pre post e v hx ih =>
    intro p p' w w' h
    simp only [runB_append, runB]
    refine runB_aga post _ _ ?_
    have h1 := runB_aga pre p p' h
    simp only [runS]
    refine whLoop_aga (fun w w' h => ?_) (fun w w' h z => vw_say_of (h z) ?_) (fun w w' h z => vw_say_of (h z) ?_) (fun w w' h => ih _ _ _ _ h) 8 _ _ h1
    · rw [vars_of (h e)]
    · exact bare_whl _ _ _ _ _
    · exact bare_whl _ _ _ _ _
end K34

/-! Paths, the exchange at a path, the rules of a tree. -/
namespace K34
open PySem

def innerS (j : Nat) : Stm → Option (List Stm)
  | .ite _ _ y n => if j = 0 then some y else if j = 1 then some n else none
  | .whl _ _ b => if j = 0 then some b else none
  | _ => none
def inner (b : List Stm) (k j : Nat) : Option (List Stm) := match b[k]? with
  | none => none
  | some s => innerS j s
def dsjB (a b : Stm) : Bool := a.ends.all fun e => !decide (e ∈ b.ends)
theorem dsjB_iff {a b : Stm} : dsjB a b = true ↔ dsj a b := by
  simp [dsjB, dsj, List.all_eq_true]
theorem dsjB_symm (a b : Stm) : dsjB a b = dsjB b a := by
  rw [Bool.eq_iff_iff, dsjB_iff, dsjB_iff]
  exact ⟨dsj.symm, dsj.symm⟩
def follow (b : List Stm) (k : Nat) : Bool := match b[k]?, b[k + 1]? with
  | some s, some t => dsjB s t
  | _, _ => false
def mayEx : List Stm → List Nat → Bool
  | _, [] => false
  | b, [k] => follow b k
  | b, k :: j :: p => match inner b k j with
    | none => false
    | some c => mayEx c p
def isPath : List Stm → List Nat → Bool
  | _, [] => false
  | b, [k] => decide (k < b.length)
  | b, k :: j :: p => match inner b k j with
    | none => false
    | some c => isPath c p
def blockAt : List Stm → List Nat → List Stm
  | b, [] => b
  | b, [_] => b
  | b, k :: j :: p => match inner b k j with
    | none => b
    | some c => blockAt c p
def lastK : List Nat → Nat
  | [] => 0
  | [k] => k
  | _ :: j :: p => lastK (j :: p)
theorem lastK2 (k j : Nat) {p : List Nat} (h : p ≠ []) : lastK (k :: j :: p) = lastK p := by
  cases p with
  | nil => exact absurd rfl h
  | cons x r => rfl
theorem isPath_ne {b : List Stm} {p : List Nat} (h : isPath b p = true) : p ≠ [] := by
  rintro rfl
  cases b <;> cases h
theorem follow_out {b : List Stm} {k : Nat} (h : b.length ≤ k + 1) : follow b k = false := by
  unfold follow
  rw [List.getElem?_eq_none (i := k + 1) (by omega)]
  split <;> first | rfl | (rename_i z; cases z)
theorem may_out : ∀ (p : List Nat) (b : List Stm), isPath b p = false → mayEx b p = false
  | [], b, _ => by cases b <;> rfl
  | [k], b, h => follow_out (by
      have := of_decide_eq_false (show decide (k < b.length) = false from h)
      omega)
  | k :: j :: p, b, h => by
    simp only [mayEx, isPath] at h ⊢
    split at h
    · rfl
    · exact may_out p _ h
theorem may_at : ∀ (p : List Nat) (b : List Stm), isPath b p = true → mayEx b p = follow (blockAt b p) (lastK p)
  | [], b, h => absurd rfl (isPath_ne h)
  | [k], b, h => rfl
  | k :: j :: p, b, h => by
    simp only [mayEx, isPath, blockAt] at h ⊢
    split at h
    · cases h
    · rw [lastK2 k j (isPath_ne h)]
      exact may_at p _ h

mutual
def pathsS (k : Nat) : Stm → List (List Nat)
  | .ite _ _ y n => ((pathsB 0 y).map fun p => k :: 0 :: p) ++ ((pathsB 0 n).map fun p => k :: 1 :: p)
  | .whl _ _ b => (pathsB 0 b).map fun p => k :: 0 :: p
  | .msg _ _ _ _ _ => []
  | .set _ _ _ => []
  | .ask _ _ => []
  | .call _ _ => []
def pathsB (k : Nat) : List Stm → List (List Nat)
  | [] => []
  | s :: r => [k] :: (pathsS k s ++ pathsB (k + 1) r)
end
theorem isPath_zero (s : Stm) (r : List Stm) (j : Nat) (p : List Nat) : isPath (s :: r) (0 :: j :: p) = match innerS j s with | none => false | some c => isPath c p := by
  simp only [isPath, inner, List.getElem?_cons_zero]
theorem isPath_succ (s : Stm) (r : List Stm) (i : Nat) : ∀ p : List Nat, isPath (s :: r) ((i + 1) :: p) = isPath r (i :: p)
  | [] => by simp [isPath]
  | j :: p => by simp only [isPath, inner, List.getElem?_cons_succ]
theorem pathsB_ne : ∀ (b : List Stm) (k : Nat), [] ∉ pathsB k b
  | [], _, h => by simp [pathsB] at h
  | s :: r, k, h => by
    simp only [pathsB, List.mem_cons, List.mem_append] at h
    rcases h with h | h | h
    · cases h
    · cases s <;> simp [pathsS] at h
    · exact pathsB_ne r _ h
mutual
theorem mem_pathsS : ∀ (s : Stm) (k : Nat) (p : List Nat), p ∈ pathsS k s ↔ ∃ j q c, p = k :: j :: q ∧ innerS j s = some c ∧ isPath c q = true
  | .ite e v y n, k, p => by
    simp only [pathsS, List.mem_append, List.mem_map, innerS]
    constructor
    · rintro (⟨q, hq, rfl⟩ | ⟨q, hq, rfl⟩)
      · exact ⟨0, q, y, rfl, by simp, (mem_path0 y q).mp hq⟩
      · exact ⟨1, q, n, rfl, by simp, (mem_path0 n q).mp hq⟩
    · rintro ⟨j, q, c, rfl, hc, hq⟩
      by_cases h0 : j = 0
      · subst h0
        rw [if_pos rfl] at hc; cases hc
        exact .inl ⟨q, (mem_path0 y q).mpr hq, rfl⟩
      · rw [if_neg h0] at hc
        by_cases h1 : j = 1
        · subst h1
          rw [if_pos rfl] at hc; cases hc
          exact .inr ⟨q, (mem_path0 n q).mpr hq, rfl⟩
        · rw [if_neg h1] at hc; cases hc
  | .whl e v b, k, p => by
    simp only [pathsS, List.mem_map, innerS]
    constructor
    · rintro ⟨q, hq, rfl⟩
      exact ⟨0, q, b, rfl, by simp, (mem_path0 b q).mp hq⟩
    · rintro ⟨j, q, c, rfl, hc, hq⟩
      by_cases h0 : j = 0
      · subst h0
        rw [if_pos rfl] at hc; cases hc
        exact ⟨q, (mem_path0 b q).mpr hq, rfl⟩
      · rw [if_neg h0] at hc; cases hc
  | .msg _ _ _ _ _, k, p => by simp [pathsS, innerS]
  | .set _ _ _, k, p => by simp [pathsS, innerS]
  | .ask _ _, k, p => by simp [pathsS, innerS]
  | .call _ _, k, p => by simp [pathsS, innerS]
theorem mem_pathsB : ∀ (b : List Stm) (k : Nat) (p : List Nat), p ∈ pathsB k b ↔ ∃ i q, p = (k + i) :: q ∧ isPath b (i :: q) = true
  | [], k, p => by
    simp only [pathsB, List.not_mem_nil, false_iff]
    rintro ⟨i, q, _, h⟩
    cases q with
    | nil => simp [isPath] at h
    | cons j q => simp [isPath, inner] at h
  | s :: r, k, p => by
    simp only [pathsB, List.mem_cons, List.mem_append, mem_pathsS s, mem_pathsB r]
    constructor
    · rintro (rfl | ⟨j, q, c, rfl, hc, hq⟩ | ⟨i, q, rfl, hq⟩)
      · exact ⟨0, [], rfl, by simp [isPath]⟩
      · exact ⟨0, j :: q, rfl, by rw [isPath_zero, hc]; exact hq⟩
      · exact ⟨i + 1, q, by rw [show k + 1 + i = k + (i + 1) by omega], by rw [isPath_succ]; exact hq⟩
    · rintro ⟨i, q, rfl, hq⟩
      cases i with
      | zero =>
        cases q with
        | nil => exact .inl rfl
        | cons j q =>
          rw [isPath_zero] at hq
          cases hc : innerS j s with
          | none => rw [hc] at hq; cases hq
          | some c => rw [hc] at hq; exact .inr (.inl ⟨j, q, c, rfl, hc, hq⟩)
      | succ i =>
        rw [isPath_succ] at hq
        exact .inr (.inr ⟨i, q, by rw [show k + 1 + i = k + (i + 1) by omega], hq⟩)
theorem mem_path0 : ∀ (b : List Stm) (p : List Nat), p ∈ pathsB 0 b ↔ isPath b p = true
  | b, p => by
    rw [mem_pathsB b 0 p]
    constructor
    · rintro ⟨i, q, rfl, h⟩
      rw [Nat.zero_add]; exact h
    · intro h
      cases p with
      | nil => exact absurd rfl (isPath_ne h)
      | cons i q => exact ⟨i, q, by rw [Nat.zero_add], h⟩
end

/-! ### the exchange -/
def exS (j : Nat) (c : List Stm) : Stm → Stm
  | .ite e v y n => if j = 0 then .ite e v c n else .ite e v y c
  | .whl e v _ => .whl e v c
  | s => s
def exB : List Stm → List Nat → List Stm
  | b, [] => b
  | b, [k] => match b[k]?, b[k + 1]? with
    | some s, some t => b.take k ++ [t, s] ++ b.drop (k + 2)
    | _, _ => b
  | b, k :: j :: p => match b[k]? with
    | none => b
    | some s => match innerS j s with
      | none => b
      | some c => b.take k ++ [exS j (exB c p) s] ++ b.drop (k + 1)
theorem cut_one {α : Type} {b : List α} {k : Nat} {s : α} (h : b[k]? = some s) : b = b.take k ++ s :: b.drop (k + 1) := by
  obtain ⟨hk, e⟩ := List.getElem?_eq_some_iff.mp h
  rw [← e, ← List.drop_eq_getElem_cons hk, List.take_append_drop]
theorem cut_two {α : Type} {b : List α} {k : Nat} {s t : α} (h : b[k]? = some s) (h2 : b[k + 1]? = some t) : b = b.take k ++ s :: t :: b.drop (k + 2) := by
  obtain ⟨hk, e⟩ := List.getElem?_eq_some_iff.mp h2
  have : b.drop (k + 1) = t :: b.drop (k + 2) := by rw [← e, ← List.drop_eq_getElem_cons hk]
  rw [← this]
  exact cut_one h
theorem exB_xch : ∀ (p : List Nat) (b : List Stm), mayEx b p = true → Xch b (exB b p)
  | [], b, h => by simp [mayEx] at h
  | [k], b, h => by
    simp only [mayEx, follow] at h
    simp only [exB]
    cases h1 : b[k]? with
    | none => rw [h1] at h; cases h
    | some s =>
      cases h2 : b[k + 1]? with
      | none => rw [h1, h2] at h; cases h
      | some t =>
        rw [h1, h2] at h
        have q := Xch.here (b.take k) (b.drop (k + 2)) s t (dsjB_iff.mp h)
        rw [← cut_two h1 h2] at q
        simpa using q
  | k :: j :: p, b, h => by
    simp only [mayEx, inner] at h
    simp only [exB]
    cases h1 : b[k]? with
    | none => rw [h1] at h; cases h
    | some s =>
      rw [h1] at h
      simp only at h ⊢
      cases h2 : innerS j s with
      | none => rw [h2] at h; cases h
      | some c =>
        rw [h2] at h
        have ih := exB_xch p c h
        have q : ∀ s', Xch (b.take k ++ s :: b.drop (k + 1)) (b.take k ++ s' :: b.drop (k + 1)) → Xch b (b.take k ++ [s'] ++ b.drop (k + 1)) := fun s' z => by
          rw [← cut_one h1] at z
          simpa using z
        refine q _ ?_
        cases s with
        | ite e v y n =>
          simp only [innerS] at h2
          simp only [exS]
          by_cases h0 : j = 0
          · rw [if_pos h0] at h2 ⊢; cases h2
            exact .iteY _ _ e v n ih
          · rw [if_neg h0] at h2 ⊢
            by_cases h3 : j = 1
            · rw [if_pos h3] at h2; cases h2
              exact .iteN _ _ e v y ih
            · rw [if_neg h3] at h2; cases h2
        | whl e v b' =>
          simp only [innerS] at h2
          by_cases h0 : j = 0
          · rw [if_pos h0] at h2; cases h2
            exact .whl _ _ e v ih
          · rw [if_neg h0] at h2; cases h2
        | msg _ _ _ _ _ => cases h2
        | set _ _ _ => cases h2
        | ask _ _ => cases h2
        | call _ _ => cases h2

/-! ### the rules -/
mutual
def Stm.lp : Stm → Nat
  | .ite _ _ y n => max (lpB y) (lpB n)
  | .whl _ _ b => lpB b + 1
  | .msg _ _ _ _ _ => 0
  | .set _ _ _ => 0
  | .ask _ _ => 0
  | .call _ _ => 0
def lpB : List Stm → Nat
  | [] => 0
  | s :: r => max s.lp (lpB r)
end
theorem lpB_append (a b : List Stm) : lpB (a ++ b) = max (lpB a) (lpB b) := by
  induction a with
  | nil => simp [lpB]
  | cons s r ih => simp [lpB, ih, Nat.max_assoc]
theorem Xch.lp {B B' : List Stm} (h : Xch B B') : lpB B' = lpB B := by
  induction h with
  | here pre post a b d => simp only [lpB_append, lpB]; omega
  | iteY pre post e v n _ ih => simp only [lpB_append, lpB, Stm.lp, ih]
  | iteN pre post e v y _ ih => simp only [lpB_append, lpB, Stm.lp, ih]
  | whl pre post e v _ ih => simp only [lpB_append, lpB, Stm.lp, ih]
/-! how deep blocks stand in blocks -/
mutual
def Stm.dp : Stm → Nat
  | .ite _ _ y n => max (dpB y) (dpB n) + 1
  | .whl _ _ b => dpB b + 1
  | .msg _ _ _ _ _ => 0
  | .set _ _ _ => 0
  | .ask _ _ => 0
  | .call _ _ => 0
def dpB : List Stm → Nat
  | [] => 0
  | s :: r => max s.dp (dpB r)
end
theorem dpB_append (a b : List Stm) : dpB (a ++ b) = max (dpB a) (dpB b) := by
  induction a with
  | nil => simp [dpB]
  | cons s r ih => simp [dpB, ih, Nat.max_assoc]
theorem Xch.dp {B B' : List Stm} (h : Xch B B') : dpB B' = dpB B := by
  induction h with
  | here pre post a b d => simp only [dpB_append, dpB]; omega
  | iteY pre post e v n _ ih => simp only [dpB_append, dpB, Stm.dp, ih]
  | iteN pre post e v y _ ih => simp only [dpB_append, dpB, Stm.dp, ih]
  | whl pre post e v _ ih => simp only [dpB_append, dpB, Stm.dp, ih]
theorem dp_mem {s : Stm} {b : List Stm} (h : s ∈ b) : s.dp ≤ dpB b := by
  induction b with
  | nil => cases h
  | cons a r ih =>
    simp only [dpB]
    rcases List.mem_cons.mp h with rfl | h
    · exact Nat.le_max_left _ _
    · exact Nat.le_trans (ih h) (Nat.le_max_right _ _)
theorem Xch.flats {B B' : List Stm} (h : Xch B B') : ∀ f, f ∈ (allB B').map Stm.flat → f ∈ (allB B).map Stm.flat := by
  induction h with
  | here pre post a b d =>
    intro f hf
    simp only [allB_append, allB, List.map_append, List.mem_append] at hf ⊢
    rcases hf with hf | hf | hf | hf <;> simp [hf]
  | iteY pre post e v n _ ih =>
    intro f hf
    simp only [allB_append, allB, Stm.all, List.map_append, List.mem_append, List.map_cons, List.mem_cons, Stm.flat] at hf ⊢
    rcases hf with hf | (hf | hf | hf) | hf
    · exact .inl hf
    · exact .inr (.inl (.inl hf))
    · exact .inr (.inl (.inr (.inl (ih f hf))))
    · exact .inr (.inl (.inr (.inr hf)))
    · exact .inr (.inr hf)
  | iteN pre post e v y _ ih =>
    intro f hf
    simp only [allB_append, allB, Stm.all, List.map_append, List.mem_append, List.map_cons, List.mem_cons, Stm.flat] at hf ⊢
    rcases hf with hf | (hf | hf | hf) | hf
    · exact .inl hf
    · exact .inr (.inl (.inl hf))
    · exact .inr (.inl (.inr (.inl hf)))
    · exact .inr (.inl (.inr (.inr (ih f hf))))
    · exact .inr (.inr hf)
  | whl pre post e v _ ih =>
    intro f hf
    simp only [allB_append, allB, Stm.all, List.map_append, List.mem_append, List.map_cons, List.mem_cons, Stm.flat] at hf ⊢
    rcases hf with hf | (hf | hf) | hf
    · exact .inl hf
    · exact .inr (.inl (.inl hf))
    · exact .inr (.inl (.inr (ih f hf)))
    · exact .inr (.inr hf)

/-- what the check asks of a statement by itself -/
def okF (E : List Str) : FS → Prop
  | .msg f t _ _ _ => f ∈ E ∧ t ∈ E ∧ f ≠ t
  | .set e _ _ => e ∈ E
  | .ask e _ => e ∈ E
  | .ite e _ => e ∈ E
  | .whl e _ => e ∈ E
  | .call _ _ => False
instance (E : List Str) (f : FS) : Decidable (okF E f) := by cases f <;> unfold okF <;> infer_instance
def okAll (E : List Str) (b : List Stm) : Bool := (allB b).all fun s => decide (okF E s.flat)
def okTree (E : List Str) (b : List Stm) : Bool := okAll E b && (decide (lpB b ≤ 3) && decide (szB b ≤ 150))
theorem Xch.okAll {E : List Str} {B B' : List Stm} (h : Xch B B') (o : okAll E B = true) : okAll E B' = true := by
  unfold K34.okAll at o ⊢
  rw [List.all_eq_true] at o ⊢
  intro s hs
  obtain ⟨t, ht, e⟩ := List.mem_map.mp (h.flats s.flat (List.mem_map.mpr ⟨s, hs, rfl⟩))
  rw [← e]
  exact o t ht
theorem Xch.okTree {E : List Str} {B B' : List Stm} (h : Xch B B') (o : okTree E B = true) : okTree E B' = true := by
  unfold K34.okTree at o ⊢
  rw [Bool.and_eq_true] at o ⊢
  rw [h.lp, h.sz]
  exact ⟨h.okAll o.1, o.2⟩
end K34

/-! The layer of this proof: data in the heap, frames, steps. -/
namespace K34
open PySem L2

/-! ### what stands in the heap -/
mutual
inductive D (H : Hp) : V → PyData → Prop
  | non : D H .non .none
  | bl (b : Bool) : D H (.bl b) (.bool b)
  | int (i : Int) : D H (.int i) (.int i)
  | str (x : Str) : D H (.str x) (.str x)
  | tup {a : Addr} {xs : List V} {ds : List PyData} : H a = some (.tup xs) → DL H xs ds → D H (.ref a) (.tuple ds)
inductive DL (H : Hp) : List V → List PyData → Prop
  | nil : DL H [] []
  | cons {v : V} {vs : List V} {d : PyData} {ds : List PyData} : D H v d → DL H vs ds → DL H (v :: vs) (d :: ds)
end

/-- H' knows what H knows, but for the objects at S; tuples stay -/
structure Frm (S : List Addr) (H H' : Hp) : Prop where
  keep : ∀ a o, a ∉ S → H a = some o → H' a = some o
  tup : ∀ a xs, H a = some (.tup xs) → H' a = some (.tup xs)
theorem Frm.refl (S : List Addr) (H : Hp) : Frm S H H := ⟨fun _ _ _ h => h, fun _ _ h => h⟩
theorem Frm.trans {S : List Addr} {H H1 H2 : Hp} (a : Frm S H H1) (b : Frm S H1 H2) : Frm S H H2 := ⟨fun c o hc h => b.keep c o hc (a.keep c o hc h), fun c xs h => b.tup c xs (a.tup c xs h)⟩
theorem Frm.then {S : List Addr} {H H1 H2 : Hp} (b : Frm S H1 H2) (a : Frm S H H1) : Frm S H H2 := a.trans b
theorem Frm.mono {S S' : List Addr} {H H1 : Hp} (a : Frm S H H1) (h : ∀ x, x ∈ S → x ∈ S') : Frm S' H H1 := ⟨fun c o hc => a.keep c o fun z => hc (h c z), a.tup⟩
theorem Frm.any {S : List Addr} {H H1 : Hp} (a : Frm [] H H1) : Frm S H H1 := a.mono fun _ h => nomatch h
theorem Frm.new {S : List Addr} {H : Hp} {p : Addr} {o : HO} (h : H p = none) : Frm S H (upd H p o) :=
  ⟨fun a u _ e => by rw [upd_ne (ne_of_none e h)]; exact e, fun a u e => by rw [upd_ne (ne_of_none e h)]; exact e⟩
/-- an object that H does not know may change -/
theorem Frm.loc {S : List Addr} {H H' : Hp} {p : Addr} {o : HO} (f : Frm S H H') (h : H p = none) : Frm S H (upd H' p o) :=
  ⟨fun a u ha e => by rw [upd_ne (ne_of_none e h)]; exact f.keep a u ha e, fun a u e => by rw [upd_ne (ne_of_none e h)]; exact f.tup a u e⟩
/-- no tuple -/
def NT (o : HO) : Prop := ∀ xs, o ≠ .tup xs
theorem nt_lst {xs : List V} : NT (.lst xs) := fun _ h => nomatch h
theorem nt_dK {kvs : List (Key × V)} : NT (.dK kvs) := fun _ h => nomatch h
theorem nt_dT {kvs : List (List Key × V)} : NT (.dT kvs) := fun _ h => nomatch h
theorem nt_ins {C dx : Addr} {fs : List (Str × V)} : NT (.ins C dx fs) := fun _ h => nomatch h
/-- an object of S is changed -/
theorem Frm.mut {S : List Addr} {H : Hp} {p : Addr} {o u : HO} (hp : p ∈ S) (h : H p = some o) (nt : NT o) : Frm S H (upd H p u) :=
  ⟨fun a w ha e => by rw [upd_ne (fun z => ha (by rw [z]; exact hp))]; exact e, fun a xs e => by
    rw [upd_ne (fun z => ?_)]
    · exact e
    · rw [z, h] at e
      exact nt xs (Option.some.inj e)⟩
theorem Frm.get0 {H H' : Hp} {a : Addr} {o : HO} (f : Frm [] H H') (h : H a = some o) : H' a = some o := f.keep a o (fun z => nomatch z) h
theorem Frm.tupS {S : List Addr} {H H' : Hp} {a : Addr} {xs : List V} (f : Frm S H H') (h : H a = some (.tup xs)) : H' a = some (.tup xs) := f.tup a xs h
theorem Frm.at1 {d : Addr} {H H' : Hp} {a : Addr} {o : HO} (f : Frm [d] H H') (n : a ≠ d) (h : H a = some o) : H' a = some o := f.keep a o (fun z => n (List.mem_singleton.mp z)) h
theorem Frm.back {S : List Addr} {H H' : Hp} {a : Addr} (f : Frm S H H') (n : a ∉ S) (h : H' a = none) : H a = none := by
  cases e : H a with
  | none => rfl
  | some o => rw [f.keep a o n e] at h; cases h
theorem Frm.back0 {H H' : Hp} {a : Addr} (f : Frm [] H H') (h : H' a = none) : H a = none := f.back (fun z => nomatch z) h
theorem Frm.same {H H' : Hp} (f : Frm [] H H') : Same H H' := fun a o h => f.get0 h

mutual
theorem D.up {H H' : Hp} (k : ∀ a xs, H a = some (.tup xs) → H' a = some (.tup xs)) {v : V} {d : PyData} (h : D H v d) : D H' v d := by
  cases h with
  | non => exact .non
  | bl b => exact .bl b
  | int i => exact .int i
  | str x => exact .str x
  | tup h1 h2 => exact .tup (k _ _ h1) (DL.up k h2)
theorem DL.up {H H' : Hp} (k : ∀ a xs, H a = some (.tup xs) → H' a = some (.tup xs)) {vs : List V} {ds : List PyData} (h : DL H vs ds) : DL H' vs ds := by
  cases h with
  | nil => exact .nil
  | cons h1 h2 => exact .cons (D.up k h1) (DL.up k h2)
end
theorem D.frm {S : List Addr} {H H' : Hp} {v : V} {d : PyData} (f : Frm S H H') (h : D H v d) : D H' v d := h.up f.tup
theorem DL.frm {S : List Addr} {H H' : Hp} {vs : List V} {ds : List PyData} (f : Frm S H H') (h : DL H vs ds) : DL H' vs ds := h.up f.tup
theorem D.mut {H : Hp} {p : Addr} {o u : HO} {v : V} {d : PyData} (h : D H v d) (e : H p = some o) (nt : NT o) : D (upd H p u) v d := h.up (Frm.mut (S := [p]) (u := u) List.mem_cons_self e nt).tup
theorem DL.mut {H : Hp} {p : Addr} {o u : HO} {v : List V} {d : List PyData} (h : DL H v d) (e : H p = some o) (nt : NT o) : DL (upd H p u) v d := h.up (Frm.mut (S := [p]) (u := u) List.mem_cons_self e nt).tup
mutual
theorem D.dp {K : PySem.W.Frag} {H : Hp} {v : V} {d : PyData} (h : D H v d) : Dp K H v d := by
  cases h with
  | non => exact .non
  | bl b => exact .bl b
  | int i => exact .int i
  | str x => exact .str x
  | tup h1 h2 => exact .tup (SqT.of h1) (DL.dp h2)
theorem DL.dp {K : PySem.W.Frag} {H : Hp} {vs : List V} {ds : List PyData} (h : DL H vs ds) : DpAll K H vs ds := by
  cases h with
  | nil => exact .nil
  | cons h1 h2 => exact .cons (D.dp h1) (DL.dp h2)
end
theorem DL.len {H : Hp} : ∀ {vs : List V} {ds : List PyData}, DL H vs ds → vs.length = ds.length
  | _, _, .nil => rfl
  | _, _, .cons _ t => congrArg (· + 1) t.len
theorem DL.get {H : Hp} : ∀ {vs : List V} {ds : List PyData} {i : Nat} {d : PyData}, DL H vs ds → ds[i]? = some d → ∃ v, vs[i]? = some v ∧ D H v d
  | _, _, _, _, .nil, e => by simp at e
  | _, _, 0, _, .cons h _, e => by
    simp only [List.getElem?_cons_zero, Option.some.injEq] at e
    subst e
    exact ⟨_, rfl, h⟩
  | _, _, i + 1, _, .cons _ t, e => by
    rw [List.getElem?_cons_succ] at e
    rw [List.getElem?_cons_succ]
    exact DL.get t e
theorem DL.getV {H : Hp} : ∀ {vs : List V} {ds : List PyData} {i : Nat} {v : V}, DL H vs ds → vs[i]? = some v → ∃ d, ds[i]? = some d ∧ D H v d
  | _, _, _, _, .nil, e => by simp at e
  | _, _, 0, _, .cons h _, e => by
    simp only [List.getElem?_cons_zero, Option.some.injEq] at e
    subst e
    exact ⟨_, rfl, h⟩
  | _, _, i + 1, _, .cons _ t, e => by
    rw [List.getElem?_cons_succ] at e
    rw [List.getElem?_cons_succ]
    exact DL.getV t e
theorem DL.app {H : Hp} : ∀ {xs ys : List V} {ds es : List PyData}, DL H xs ds → DL H ys es → DL H (xs ++ ys) (ds ++ es)
  | _, _, _, _, .nil, t => t
  | _, _, _, _, .cons h t, u => .cons h (DL.app t u)
theorem DL.one {H : Hp} {v : V} {d : PyData} (h : D H v d) : DL H [v] [d] := .cons h .nil
theorem DL.take {H : Hp} : ∀ {xs : List V} {ds : List PyData} (n : Nat), DL H xs ds → DL H (xs.take n) (ds.take n)
  | _, _, 0, _ => .nil
  | _, _, _ + 1, .nil => .nil
  | _, _, n + 1, .cons h t => .cons h (DL.take n t)
theorem DL.drop {H : Hp} : ∀ {xs : List V} {ds : List PyData} (n : Nat), DL H xs ds → DL H (xs.drop n) (ds.drop n)
  | _, _, 0, h => h
  | _, _, _ + 1, .nil => .nil
  | _, _, n + 1, .cons _ t => DL.drop n t
theorem D.tupE {H : Hp} {v : V} {ds : List PyData} (h : D H v (.tuple ds)) : ∃ a xs, v = .ref a ∧ H a = some (.tup xs) ∧ DL H xs ds := by
  cases h with
  | tup h1 h2 => exact ⟨_, _, rfl, h1, h2⟩
theorem D.strE {H : Hp} {v : V} {x : Str} (h : D H v (.str x)) : v = .str x := by cases h; rfl
theorem D.intE {H : Hp} {v : V} {x : Int} (h : D H v (.int x)) : v = .int x := by cases h; rfl
theorem DL.nilE {H : Hp} {vs : List V} (h : DL H vs []) : vs = [] := by cases h; rfl
theorem DL.consE {H : Hp} {vs : List V} {d : PyData} {ds : List PyData} (h : DL H vs (d :: ds)) : ∃ x r, vs = x :: r ∧ D H x d ∧ DL H r ds := by
  cases h with
  | cons h1 h2 => exact ⟨_, _, rfl, h1, h2⟩
theorem D.t1 {H : Hp} {v : V} {d0 : PyData} (h : D H v (.tuple [d0])) : ∃ a x0, v = .ref a ∧ H a = some (.tup [x0]) ∧ D H x0 d0 := by
  obtain ⟨a, xs, rfl, h1, h2⟩ := h.tupE
  obtain ⟨x0, _, rfl, e0, h2⟩ := h2.consE
  cases h2.nilE
  exact ⟨a, x0, rfl, h1, e0⟩
theorem D.t2 {H : Hp} {v : V} {d0 d1 : PyData} (h : D H v (.tuple [d0, d1])) : ∃ a x0 x1, v = .ref a ∧ H a = some (.tup [x0, x1]) ∧ D H x0 d0 ∧ D H x1 d1 := by
  obtain ⟨a, xs, rfl, h1, h2⟩ := h.tupE
  obtain ⟨x0, _, rfl, e0, h2⟩ := h2.consE
  obtain ⟨x1, _, rfl, e1, h2⟩ := h2.consE
  cases h2.nilE
  exact ⟨a, x0, x1, rfl, h1, e0, e1⟩
theorem D.t3 {H : Hp} {v : V} {d0 d1 d2 : PyData} (h : D H v (.tuple [d0, d1, d2])) : ∃ a x0 x1 x2, v = .ref a ∧ H a = some (.tup [x0, x1, x2]) ∧ D H x0 d0 ∧ D H x1 d1 ∧ D H x2 d2 := by
  obtain ⟨a, xs, rfl, h1, h2⟩ := h.tupE
  obtain ⟨x0, _, rfl, e0, h2⟩ := h2.consE
  obtain ⟨x1, _, rfl, e1, h2⟩ := h2.consE
  obtain ⟨x2, _, rfl, e2, h2⟩ := h2.consE
  cases h2.nilE
  exact ⟨a, x0, x1, x2, rfl, h1, e0, e1, e2⟩
theorem D.t4 {H : Hp} {v : V} {d0 d1 d2 d3 : PyData} (h : D H v (.tuple [d0, d1, d2, d3])) : ∃ a x0 x1 x2 x3, v = .ref a ∧ H a = some (.tup [x0, x1, x2, x3]) ∧ D H x0 d0 ∧ D H x1 d1 ∧ D H x2 d2 ∧ D H x3 d3 := by
  obtain ⟨a, xs, rfl, h1, h2⟩ := h.tupE
  obtain ⟨x0, _, rfl, e0, h2⟩ := h2.consE
  obtain ⟨x1, _, rfl, e1, h2⟩ := h2.consE
  obtain ⟨x2, _, rfl, e2, h2⟩ := h2.consE
  obtain ⟨x3, _, rfl, e3, h2⟩ := h2.consE
  cases h2.nilE
  exact ⟨a, x0, x1, x2, x3, rfl, h1, e0, e1, e2, e3⟩
theorem D.t5 {H : Hp} {v : V} {d0 d1 d2 d3 d4 : PyData} (h : D H v (.tuple [d0, d1, d2, d3, d4])) : ∃ a x0 x1 x2 x3 x4, v = .ref a ∧ H a = some (.tup [x0, x1, x2, x3, x4]) ∧ D H x0 d0 ∧ D H x1 d1 ∧ D H x2 d2 ∧ D H x3 d3 ∧ D H x4 d4 := by
  obtain ⟨a, xs, rfl, h1, h2⟩ := h.tupE
  obtain ⟨x0, _, rfl, e0, h2⟩ := h2.consE
  obtain ⟨x1, _, rfl, e1, h2⟩ := h2.consE
  obtain ⟨x2, _, rfl, e2, h2⟩ := h2.consE
  obtain ⟨x3, _, rfl, e3, h2⟩ := h2.consE
  obtain ⟨x4, _, rfl, e4, h2⟩ := h2.consE
  cases h2.nilE
  exact ⟨a, x0, x1, x2, x3, x4, rfl, h1, e0, e1, e2, e3, e4⟩
theorem D.t6 {H : Hp} {v : V} {d0 d1 d2 d3 d4 d5 : PyData} (h : D H v (.tuple [d0, d1, d2, d3, d4, d5])) : ∃ a x0 x1 x2 x3 x4 x5, v = .ref a ∧ H a = some (.tup [x0, x1, x2, x3, x4, x5]) ∧ D H x0 d0 ∧ D H x1 d1 ∧ D H x2 d2 ∧ D H x3 d3 ∧ D H x4 d4 ∧ D H x5 d5 := by
  obtain ⟨a, xs, rfl, h1, h2⟩ := h.tupE
  obtain ⟨x0, _, rfl, e0, h2⟩ := h2.consE
  obtain ⟨x1, _, rfl, e1, h2⟩ := h2.consE
  obtain ⟨x2, _, rfl, e2, h2⟩ := h2.consE
  obtain ⟨x3, _, rfl, e3, h2⟩ := h2.consE
  obtain ⟨x4, _, rfl, e4, h2⟩ := h2.consE
  obtain ⟨x5, _, rfl, e5, h2⟩ := h2.consE
  cases h2.nilE
  exact ⟨a, x0, x1, x2, x3, x4, x5, rfl, h1, e0, e1, e2, e3, e4, e5⟩

/-! ### the trees as data -/
def encV : Val → PyData
  | .num n => .tuple [.str "number", .int n]
  | .nam x => .tuple [.str "name", .str x]
  | .op s l r => .tuple [.str s, encV l, encV r]
mutual
def encS : Stm → PyData
  | .msg f t l v x => .tuple [.str "message", .str f, .str t, .str l, encV v, .str x]
  | .set e x v => .tuple [.str "set", .str e, .str x, encV v]
  | .ask e x => .tuple [.str "ask", .str e, .str x]
  | .ite e v y n => .tuple [.str "if", .str e, encV v, .tuple (encB y), .tuple (encB n)]
  | .whl e v b => .tuple [.str "while", .str e, encV v, .tuple (encB b)]
  | .call p es => .tuple [.str "call", .str p, .tuple (es.map PyData.str)]
def encB : List Stm → List PyData
  | [] => []
  | s :: r => encS s :: encB r
end
theorem encB_map : ∀ b : List Stm, encB b = b.map encS
  | [] => rfl
  | s :: r => by rw [encB, encB_map r, List.map_cons]
def encF : FS → PyData
  | .msg f t l v x => .tuple [.str "message", .str f, .str t, .str l, encV v, .str x]
  | .set e x v => .tuple [.str "set", .str e, .str x, encV v]
  | .ask e x => .tuple [.str "ask", .str e, .str x]
  | .ite e v => .tuple [.str "if", .str e, encV v]
  | .whl e v => .tuple [.str "while", .str e, encV v]
  | .call p es => .tuple [.str "call", .str p, .tuple (es.map PyData.str)]
def encNat (n : Nat) : PyData := .int n
def encPath (p : List Nat) : PyData := .tuple (p.map encNat)
end K34

/-! Named rules, and one step lemma for each reading. -/
namespace K34
open PySem L2

theorem szl {n : Nat} (h : n ≤ 1000000) : n ≤ sizeLine := Nat.le_trans h (by decide)
theorem szlt {n : Nat} (h : n < 1000000) : n < sizeLine := Nat.lt_of_lt_of_le h (by decide)

/-! ### rules under names -/
def rLen (K : PySem.W.Frag) : List V → Hp → VK → Prop := fun xs H Q => ∃ p ys, xs = [.ref p] ∧ (SqL K H p ys ∨ SqT K H p ys) ∧ Q (.int ys.length) H
def rTupOf (K : PySem.W.Frag) : List V → Hp → VK → Prop := fun xs H Q => ∃ p ys, xs = [.ref p] ∧ ((SqL K H p ys ∧ ∀ l, H l = none → Q (.ref l) (upd H l (.tup ys))) ∨ (SqT K H p ys ∧ Q (.ref p) H))
def rLstOf (K : PySem.W.Frag) : List V → Hp → VK → Prop := fun xs H Q => ∃ p ys, xs = [.ref p] ∧ (SqL K H p ys ∨ SqT K H p ys) ∧ ∀ l, H l = none → Q (.ref l) (upd H l (.lst ys))
def rAddI : R2 := rI0 fun i j => .int (i + j)
def rSubI : R2 := rI0 fun i j => .int (i - j)
def rMulI : R2 := rI CMul fun i j => .int (i * j)
def rDivI : R2 := rI CDiv fun i j => .int (i / j)
def rModI : R2 := rI (fun _ j => 0 < j) fun i j => .int (i % j)
def rLtI : R2 := rI0 fun i j => .bl (decide (i < j))
def rLeI : R2 := rI0 fun i j => .bl (decide (i ≤ j))
def rGtI : R2 := rI0 fun i j => .bl (decide (j < i))
def rAddT : R2 := fun x y H Q => ∃ i j, x = .str i ∧ y = .str j ∧ i.length + j.length ≤ sizeLine ∧ Q (.str (i ++ j)) H
def rIsN : R2 := fun x y H Q => y = .non ∧ Q (.bl (decide (x = .non))) H
def rNotN : R2 := fun x y H Q => y = .non ∧ Q (.bl (!decide (x = .non))) H
def rInt1 : List V → Hp → VK → Prop := fun xs H Q => (∃ i, xs = [.int i] ∧ Q (.int i) H) ∨ ∃ k, xs = [.bl k] ∧ Q (.int (if k then 1 else 0)) H
def rAbs : List V → Hp → VK → Prop := fun xs H Q => ∃ i, xs = [.int i] ∧ Q (.int (if i < 0 then -i else i)) H
def rMax2 : List V → Hp → VK → Prop := fun xs H Q => ∃ i j, xs = [.int i, .int j] ∧ Q (.int (if j > i then j else i)) H
def rStrI : List V → Hp → VK → Prop := fun xs H Q => ∃ i, xs = [.int i] ∧ i.natAbs.log2 < 1920 ∧ Q (.str (toString i)) H
section
variable {X : Cx}
theorem k_len : CallR X (.builtin "len") (rLen X.K) := call_len_seq
theorem k_tup : CallR X (.type "tuple") (rTupOf X.K) := call_tuple_of
theorem k_lst : CallR X (.type "list") (rLstOf X.K) := call_list_of
theorem k_add : OpR X (binaryOp .Add) rAddI := op_add
theorem k_sub : OpR X (binaryOp .Sub) rSubI := op_sub
theorem k_mul : OpR X (binaryOp .Mult) rMulI := op_mul
theorem k_div : OpR X (binaryOp .FloorDiv) rDivI := op_fdiv
theorem k_mod : OpR X (binaryOp .Mod) rModI := op_mod
theorem k_lt : OpR X (compareOp .Lt) rLtI := op_lt
theorem k_le : OpR X (compareOp .LtE) rLeI := op_le
theorem k_gt : OpR X (compareOp .Gt) rGtI := op_gt
theorem k_addT : OpR X (binaryOp .Add) rAddT := op_add_str
theorem k_isN : OpR X (compareOp .Is) rIsN := op_isN
theorem k_notN : OpR X (compareOp .IsNot) rNotN := op_notN
theorem k_int1 : CallR X (.type "int") rInt1 := call_int1
theorem k_abs : CallR X (.builtin "abs") rAbs := call_abs
theorem k_max2 (hc : X.calm = true) : CallR X (.builtin "max") rMax2 := call_max2 hc
theorem k_strI : CallR X (.type "str") rStrI := call_str_int
end

theorem at0 {xs : List V} {v : V} (h : xs[0]? = some v) : atI xs 0 = some v := atI_nat (j := 0) h
theorem at1 {xs : List V} {v : V} (h : xs[1]? = some v) : atI xs 1 = some v := atI_nat (j := 1) h
theorem at2 {xs : List V} {v : V} (h : xs[2]? = some v) : atI xs 2 = some v := atI_nat (j := 2) h
theorem at3 {xs : List V} {v : V} (h : xs[3]? = some v) : atI xs 3 = some v := atI_nat (j := 3) h
theorem at4 {xs : List V} {v : V} (h : xs[4]? = some v) : atI xs 4 = some v := atI_nat (j := 4) h
theorem at5 {xs : List V} {v : V} (h : xs[5]? = some v) : atI xs 5 = some v := atI_nat (j := 5) h
/-! ### steps -/
/-- a new object, told by a frame -/
def New (Q : VK) (o : HO) (H : Hp) : Prop := ∀ p, H p = none → Q (.ref p) (upd H p o)
theorem New.mk {Q : VK} {o : HO} {H : Hp} (h : ∀ p H2, H p = none → Frm [] H H2 → H2 p = some o → Q (.ref p) H2) : New Q o H := fun p hp => h p _ hp (Frm.new hp) upd_same
def KT (Q : VK) : List V → Hp → Prop := fun xs H => xs.length ≤ sizeLine ∧ New Q (.tup xs) H
def KL (Q : VK) : List V → Hp → Prop := fun xs H => xs.length ≤ sizeLine ∧ New Q (.lst xs) H
def KFld (K : PySem.W.Frag) (f : Str) (Q : VK) : V → Hp → Prop := fun x H1 => ∃ a C dx fs v, x = .ref a ∧ H1 a = some (.ins C dx fs) ∧ Cls K C ∧ NoAttr K C f ∧ fs.lookup f = some v ∧ Q v H1
def KGet (x y : V) (Q : VK) (H : Hp) : Prop := ∃ a v, x = .ref a ∧ DGet H a y (some v) ∧ Q v H
def KIn (x y : V) (Q : VK) (H : Hp) : Prop := ∃ a o, x = .ref a ∧ DGet H a y o ∧ Q (.bl o.isSome) H
def KNin (x y : V) (Q : VK) (H : Hp) : Prop := ∃ a o, x = .ref a ∧ DGet H a y o ∧ Q (.bl (!o.isSome)) H
def KPut (x y v : V) (N : Hp → Prop) (H : Hp) : Prop := ∃ a H4, x = .ref a ∧ DPut H a y v H4 ∧ N H4
def KPart (Q : Option Int → Hp → Prop) : V → Hp → Prop := fun x H1 => ∃ i, x = .int i ∧ Q (some i) H1
def KB (Q : Bool → Hp → Prop) : V → Hp → Prop := fun x H' => ∃ k, x = .bl k ∧ Q k H'
def KPar (i j : Nat) (D : Ends) (σ : L2.St) : List V → Hp → Prop := fun vs H1 => ∃ v w, vs = [v, w] ∧ D.nx ((σ.set i (some v)).set j (some w)) H1
def KSet (i : Nat) (v : V) (σ : L2.St) (Q : L2.St → Hp → Prop) (H : Hp) : Prop := Q (σ.set i (some v)) H
theorem gn0 {Q : L2.St → Hp → Prop} {v : V} {H : Hp} {a0 : Option V} {r : L2.St} (q : Q (some v :: r) H) : KSet 0 v (a0 :: r) Q H := q
theorem gn1 {Q : L2.St → Hp → Prop} {v : V} {H : Hp} {a0 a1 : Option V} {r : L2.St} (q : Q (a0 :: some v :: r) H) : KSet 1 v (a0 :: a1 :: r) Q H := q
theorem gn2 {Q : L2.St → Hp → Prop} {v : V} {H : Hp} {a0 a1 a2 : Option V} {r : L2.St} (q : Q (a0 :: a1 :: some v :: r) H) : KSet 2 v (a0 :: a1 :: a2 :: r) Q H := q
theorem gn3 {Q : L2.St → Hp → Prop} {v : V} {H : Hp} {a0 a1 a2 a3 : Option V} {r : L2.St} (q : Q (a0 :: a1 :: a2 :: some v :: r) H) : KSet 3 v (a0 :: a1 :: a2 :: a3 :: r) Q H := q
theorem gn4 {Q : L2.St → Hp → Prop} {v : V} {H : Hp} {a0 a1 a2 a3 a4 : Option V} {r : L2.St} (q : Q (a0 :: a1 :: a2 :: a3 :: some v :: r) H) : KSet 4 v (a0 :: a1 :: a2 :: a3 :: a4 :: r) Q H := q
theorem gn5 {Q : L2.St → Hp → Prop} {v : V} {H : Hp} {a0 a1 a2 a3 a4 a5 : Option V} {r : L2.St} (q : Q (a0 :: a1 :: a2 :: a3 :: a4 :: some v :: r) H) : KSet 5 v (a0 :: a1 :: a2 :: a3 :: a4 :: a5 :: r) Q H := q
theorem gn6 {Q : L2.St → Hp → Prop} {v : V} {H : Hp} {a0 a1 a2 a3 a4 a5 a6 : Option V} {r : L2.St} (q : Q (a0 :: a1 :: a2 :: a3 :: a4 :: a5 :: some v :: r) H) : KSet 6 v (a0 :: a1 :: a2 :: a3 :: a4 :: a5 :: a6 :: r) Q H := q
theorem gn7 {Q : L2.St → Hp → Prop} {v : V} {H : Hp} {a0 a1 a2 a3 a4 a5 a6 a7 : Option V} {r : L2.St} (q : Q (a0 :: a1 :: a2 :: a3 :: a4 :: a5 :: a6 :: some v :: r) H) : KSet 7 v (a0 :: a1 :: a2 :: a3 :: a4 :: a5 :: a6 :: a7 :: r) Q H := q
theorem gn8 {Q : L2.St → Hp → Prop} {v : V} {H : Hp} {a0 a1 a2 a3 a4 a5 a6 a7 a8 : Option V} {r : L2.St} (q : Q (a0 :: a1 :: a2 :: a3 :: a4 :: a5 :: a6 :: a7 :: some v :: r) H) : KSet 8 v (a0 :: a1 :: a2 :: a3 :: a4 :: a5 :: a6 :: a7 :: a8 :: r) Q H := q
theorem gn9 {Q : L2.St → Hp → Prop} {v : V} {H : Hp} {a0 a1 a2 a3 a4 a5 a6 a7 a8 a9 : Option V} {r : L2.St} (q : Q (a0 :: a1 :: a2 :: a3 :: a4 :: a5 :: a6 :: a7 :: a8 :: some v :: r) H) : KSet 9 v (a0 :: a1 :: a2 :: a3 :: a4 :: a5 :: a6 :: a7 :: a8 :: a9 :: r) Q H := q
theorem gn10 {Q : L2.St → Hp → Prop} {v : V} {H : Hp} {a0 a1 a2 a3 a4 a5 a6 a7 a8 a9 a10 : Option V} {r : L2.St} (q : Q (a0 :: a1 :: a2 :: a3 :: a4 :: a5 :: a6 :: a7 :: a8 :: a9 :: some v :: r) H) : KSet 10 v (a0 :: a1 :: a2 :: a3 :: a4 :: a5 :: a6 :: a7 :: a8 :: a9 :: a10 :: r) Q H := q
theorem gn11 {Q : L2.St → Hp → Prop} {v : V} {H : Hp} {a0 a1 a2 a3 a4 a5 a6 a7 a8 a9 a10 a11 : Option V} {r : L2.St} (q : Q (a0 :: a1 :: a2 :: a3 :: a4 :: a5 :: a6 :: a7 :: a8 :: a9 :: a10 :: some v :: r) H) : KSet 11 v (a0 :: a1 :: a2 :: a3 :: a4 :: a5 :: a6 :: a7 :: a8 :: a9 :: a10 :: a11 :: r) Q H := q
theorem gn12 {Q : L2.St → Hp → Prop} {v : V} {H : Hp} {a0 a1 a2 a3 a4 a5 a6 a7 a8 a9 a10 a11 a12 : Option V} {r : L2.St} (q : Q (a0 :: a1 :: a2 :: a3 :: a4 :: a5 :: a6 :: a7 :: a8 :: a9 :: a10 :: a11 :: some v :: r) H) : KSet 12 v (a0 :: a1 :: a2 :: a3 :: a4 :: a5 :: a6 :: a7 :: a8 :: a9 :: a10 :: a11 :: a12 :: r) Q H := q
theorem gn13 {Q : L2.St → Hp → Prop} {v : V} {H : Hp} {a0 a1 a2 a3 a4 a5 a6 a7 a8 a9 a10 a11 a12 a13 : Option V} {r : L2.St} (q : Q (a0 :: a1 :: a2 :: a3 :: a4 :: a5 :: a6 :: a7 :: a8 :: a9 :: a10 :: a11 :: a12 :: some v :: r) H) : KSet 13 v (a0 :: a1 :: a2 :: a3 :: a4 :: a5 :: a6 :: a7 :: a8 :: a9 :: a10 :: a11 :: a12 :: a13 :: r) Q H := q
theorem gn14 {Q : L2.St → Hp → Prop} {v : V} {H : Hp} {a0 a1 a2 a3 a4 a5 a6 a7 a8 a9 a10 a11 a12 a13 a14 : Option V} {r : L2.St} (q : Q (a0 :: a1 :: a2 :: a3 :: a4 :: a5 :: a6 :: a7 :: a8 :: a9 :: a10 :: a11 :: a12 :: a13 :: some v :: r) H) : KSet 14 v (a0 :: a1 :: a2 :: a3 :: a4 :: a5 :: a6 :: a7 :: a8 :: a9 :: a10 :: a11 :: a12 :: a13 :: a14 :: r) Q H := q
theorem gn15 {Q : L2.St → Hp → Prop} {v : V} {H : Hp} {a0 a1 a2 a3 a4 a5 a6 a7 a8 a9 a10 a11 a12 a13 a14 a15 : Option V} {r : L2.St} (q : Q (a0 :: a1 :: a2 :: a3 :: a4 :: a5 :: a6 :: a7 :: a8 :: a9 :: a10 :: a11 :: a12 :: a13 :: a14 :: some v :: r) H) : KSet 15 v (a0 :: a1 :: a2 :: a3 :: a4 :: a5 :: a6 :: a7 :: a8 :: a9 :: a10 :: a11 :: a12 :: a13 :: a14 :: a15 :: r) Q H := q
theorem gn16 {Q : L2.St → Hp → Prop} {v : V} {H : Hp} {a0 a1 a2 a3 a4 a5 a6 a7 a8 a9 a10 a11 a12 a13 a14 a15 a16 : Option V} {r : L2.St} (q : Q (a0 :: a1 :: a2 :: a3 :: a4 :: a5 :: a6 :: a7 :: a8 :: a9 :: a10 :: a11 :: a12 :: a13 :: a14 :: a15 :: some v :: r) H) : KSet 16 v (a0 :: a1 :: a2 :: a3 :: a4 :: a5 :: a6 :: a7 :: a8 :: a9 :: a10 :: a11 :: a12 :: a13 :: a14 :: a15 :: a16 :: r) Q H := q
theorem gn17 {Q : L2.St → Hp → Prop} {v : V} {H : Hp} {a0 a1 a2 a3 a4 a5 a6 a7 a8 a9 a10 a11 a12 a13 a14 a15 a16 a17 : Option V} {r : L2.St} (q : Q (a0 :: a1 :: a2 :: a3 :: a4 :: a5 :: a6 :: a7 :: a8 :: a9 :: a10 :: a11 :: a12 :: a13 :: a14 :: a15 :: a16 :: some v :: r) H) : KSet 17 v (a0 :: a1 :: a2 :: a3 :: a4 :: a5 :: a6 :: a7 :: a8 :: a9 :: a10 :: a11 :: a12 :: a13 :: a14 :: a15 :: a16 :: a17 :: r) Q H := q
theorem g_st {t : TS} {D : Ends} {σ σ' : L2.St} {H : Hp} (e : σ = σ') (q : t D σ' H) : t D σ H := by
  rw [e]
  exact q
section
variable {K : PySem.W.Frag} {σ : L2.St} {H : Hp} {Q : VK} {ta tb te : TE} {tt tu : TT} {tl : TA} {t u : TS} {D : Ends} {r : R2} {x y v : V} {i : Nat} {g : TG}
theorem g_var (h : σ[i]? = some (some v)) (q : Q v H) : tVar i σ H Q := ⟨v, h, q⟩
theorem g_c (q : Q v H) : tC v σ H Q := q
theorem g_op (q : ta σ H fun x H1 => tb σ H1 fun y H2 => r x y H2 Q) : tOp r ta tb σ H Q := q
theorem g_un {r : V → Hp → VK → Prop} (q : ta σ H fun x H1 => r x H1 Q) : tUn r ta σ H Q := q
theorem g_neg {i : Int} (q : Q (.int (-i)) H) : rU (fun i => .int (-i)) (.int i) H Q := ⟨i, rfl, q⟩
theorem g_tup (q : tl σ H (KT Q)) : tTup tl σ H Q := q
theorem g_lst (q : tl σ H (KL Q)) : tLst tl σ H Q := q
theorem g_nil {Q : List V → Hp → Prop} (q : Q [] H) : tNil σ H Q := q
theorem g_cons {Q : List V → Hp → Prop} (q : ta σ H fun x H1 => tl σ H1 fun xs H2 => Q (x :: xs) H2) : tCons ta tl σ H Q := q
theorem g_KT {xs : List V} (hl : xs.length ≤ 1000000) (h : ∀ p H2, H p = none → Frm [] H H2 → H2 p = some (.tup xs) → Q (.ref p) H2) : KT Q xs H := ⟨szl hl, New.mk h⟩
theorem g_KL {xs : List V} (hl : xs.length ≤ 1000000) (h : ∀ p H2, H p = none → Frm [] H H2 → H2 p = some (.lst xs) → Q (.ref p) H2) : KL Q xs H := ⟨szl hl, New.mk h⟩
theorem g_ixT {p : Addr} {xs : List V} {j : Int} (h : H p = some (.tup xs)) (e : atI xs j = some v) (q : Q v H) : rIxT K (.ref p) (.int j) H Q := ⟨p, xs, j, v, rfl, rfl, SqT.of h, e, q⟩
theorem g_ixL {p : Addr} {xs : List V} {j : Int} (h : H p = some (.lst xs)) (e : atI xs j = some v) (q : Q v H) : rIxL K (.ref p) (.int j) H Q := ⟨p, xs, j, v, rfl, rfl, SqL.of h, e, q⟩
theorem g_add {i j : Int} (q : Q (.int (i + j)) H) : rAddI (.int i) (.int j) H Q := ⟨i, j, rfl, rfl, q⟩
theorem g_sub {i j : Int} (q : Q (.int (i - j)) H) : rSubI (.int i) (.int j) H Q := ⟨i, j, rfl, rfl, q⟩
theorem g_mul {i j : Int} (h : CMul i j) (q : Q (.int (i * j)) H) : rMulI (.int i) (.int j) H Q := ⟨i, j, rfl, rfl, h, q⟩
theorem g_div {i j : Int} (h : CDiv i j) (q : Q (.int (i / j)) H) : rDivI (.int i) (.int j) H Q := ⟨i, j, rfl, rfl, h, q⟩
theorem g_mod {i j : Int} (h : 0 < j) (q : Q (.int (i % j)) H) : rModI (.int i) (.int j) H Q := ⟨i, j, rfl, rfl, h, q⟩
theorem g_lt {i j : Int} (q : Q (.bl (decide (i < j))) H) : rLtI (.int i) (.int j) H Q := ⟨i, j, rfl, rfl, q⟩
theorem g_le {i j : Int} (q : Q (.bl (decide (i ≤ j))) H) : rLeI (.int i) (.int j) H Q := ⟨i, j, rfl, rfl, q⟩
theorem g_gt {i j : Int} (q : Q (.bl (decide (j < i))) H) : rGtI (.int i) (.int j) H Q := ⟨i, j, rfl, rfl, q⟩
theorem g_addT {a b : Str} (h : a.length + b.length ≤ 1000000) (q : Q (.str (a ++ b)) H) : rAddT (.str a) (.str b) H Q := ⟨a, b, rfl, rfl, szl h, q⟩
theorem g_eqT (h : scal x y = true) (e : decide (x = y) = true) (q : Q (.bl true) H) : rEq x y H Q := ⟨h, by rw [e]; exact q⟩
theorem g_eqF (h : scal x y = true) (e : decide (x = y) = false) (q : Q (.bl false) H) : rEq x y H Q := ⟨h, by rw [e]; exact q⟩
theorem g_eqV (h : scal x y = true) (q : Q (.bl (decide (x = y))) H) : rEq x y H Q := ⟨h, q⟩
theorem g_neT (h : scal x y = true) (e : decide (x = y) = false) (q : Q (.bl true) H) : rNe x y H Q := ⟨h, by rw [e]; exact q⟩
theorem g_neF (h : scal x y = true) (e : decide (x = y) = true) (q : Q (.bl false) H) : rNe x y H Q := ⟨h, by rw [e]; exact q⟩
theorem g_neV (h : scal x y = true) (q : Q (.bl (!decide (x = y))) H) : rNe x y H Q := ⟨h, q⟩
theorem g_isN (q : Q (.bl (decide (x = .non))) H) : rIsN x .non H Q := ⟨rfl, q⟩
theorem g_notN (q : Q (.bl (!decide (x = .non))) H) : rNotN x .non H Q := ⟨rfl, q⟩
theorem g_eqD {d e : PyData} (hd : K34.D H x d) (he : K34.D H y e) (s1 : SeqAt.shaped d = true) (s2 : SeqAt.shaped e = true) (q : Q (.bl (PyData.eqv d e)) H) : rEqD K x y H Q := ⟨d, e, hd.dp, he.dp, s1, s2, q⟩
theorem g_inT {p : Addr} {xs : List V} (h : H p = some (.tup xs)) (f1 : flatV x = true) (f2 : xs.all flatV = true) (q : Q (.bl (inV x xs)) H) : rIn K false x (.ref p) H Q := ⟨p, xs, rfl, .inr (SqT.of h), f1, f2, q⟩
theorem g_inL {p : Addr} {xs : List V} (h : H p = some (.lst xs)) (f1 : flatV x = true) (f2 : xs.all flatV = true) (q : Q (.bl (inV x xs)) H) : rIn K false x (.ref p) H Q := ⟨p, xs, rfl, .inl (SqL.of h), f1, f2, q⟩
theorem g_ninT {p : Addr} {xs : List V} (h : H p = some (.tup xs)) (f1 : flatV x = true) (f2 : xs.all flatV = true) (q : Q (.bl (!inV x xs)) H) : rIn K true x (.ref p) H Q := ⟨p, xs, rfl, .inr (SqT.of h), f1, f2, q⟩
theorem g_ninL {p : Addr} {xs : List V} (h : H p = some (.lst xs)) (f1 : flatV x = true) (f2 : xs.all flatV = true) (q : Q (.bl (!inV x xs)) H) : rIn K true x (.ref p) H Q := ⟨p, xs, rfl, .inl (SqL.of h), f1, f2, q⟩
theorem g_catT {a b : Addr} {xs ys : List V} (ha : H a = some (.tup xs)) (hb : H b = some (.tup ys)) (hl : xs.length + ys.length ≤ 1000000) (h : ∀ p H2, Frm [] H H2 → H2 p = some (.tup (xs ++ ys)) → Q (.ref p) H2) : rCatA K (.ref a) (.ref b) H Q :=
  ⟨a, b, xs, ys, rfl, rfl, SqT.of ha, SqT.of hb, szl hl, fun e => h b H (Frm.refl _ _) (by rw [e]; exact hb), fun _ e => h a H (Frm.refl _ _) (by rw [e, List.append_nil]; exact ha), fun _ _ p hp => h p _ (Frm.new hp) upd_same⟩
theorem cutV_whole {xs : List V} {lo hi : Option Int} (h : HT.sIx xs.length 0 lo = 0 ∧ HT.sIx xs.length xs.length hi = xs.length) : cutV xs lo hi = xs := by
  unfold cutV
  rw [h.1, h.2, List.drop_zero, Nat.sub_zero, List.take_length]
theorem g_slT {a : Addr} {xs : List V} {lo hi : Option Int} (ha : H a = some (.tup xs)) (h : ∀ p H2, Frm [] H H2 → H2 p = some (.tup (cutV xs lo hi)) → Q (.ref p) H2) : rSlA K (.ref a) lo hi H Q :=
  ⟨a, xs, rfl, SqT.of ha, fun e => h a H (Frm.refl _ _) (by rw [cutV_whole e]; exact ha), fun _ p hp => h p _ (Frm.new hp) upd_same⟩
theorem cut_from (xs : List V) (n : Nat) : cutV xs (some (n : Int)) none = xs.drop n := by
  unfold cutV
  rw [HT.sIx_nat, HT.sIx_none]
  by_cases h : n ≤ xs.length
  · rw [Nat.min_eq_left h, List.take_of_length_le (by rw [List.length_drop]; omega)]
  · rw [Nat.min_eq_right (by omega), List.drop_eq_nil_of_le (Nat.le_refl _), List.drop_eq_nil_of_le (by omega), List.take_nil]
theorem cut_to (xs : List V) (n : Nat) : cutV xs none (some (n : Int)) = xs.take n := by
  unfold cutV
  rw [HT.sIx_nat, HT.sIx_none, List.drop_zero, Nat.sub_zero]
  by_cases h : n ≤ xs.length
  · rw [Nat.min_eq_left h]
  · rw [Nat.min_eq_right (by omega), List.take_of_length_le (by omega), List.take_of_length_le (by omega)]
theorem g_slF {a : Addr} {xs : List V} {n : Nat} (ha : H a = some (.tup xs)) (h : ∀ p H2, Frm [] H H2 → H2 p = some (.tup (xs.drop n)) → Q (.ref p) H2) : rSlA K (.ref a) (some (n : Int)) none H Q :=
  g_slT ha (by rw [cut_from]; exact h)
theorem g_slU {a : Addr} {xs : List V} {n : Nat} (ha : H a = some (.tup xs)) (h : ∀ p H2, Frm [] H H2 → H2 p = some (.tup (xs.take n)) → Q (.ref p) H2) : rSlA K (.ref a) none (some (n : Int)) H Q :=
  g_slT ha (by rw [cut_to]; exact h)
theorem g_slF2 {a : Addr} {x0 x1 : V} {r : List V} (ha : H a = some (.tup (x0 :: x1 :: r))) (h : ∀ p H2, Frm [] H H2 → H2 p = some (.tup r) → Q (.ref p) H2) : rSlA K (.ref a) (some 2) none H Q := g_slF (n := 2) ha h
theorem g_slF3 {a : Addr} {x0 x1 x2 : V} {r : List V} (ha : H a = some (.tup (x0 :: x1 :: x2 :: r))) (h : ∀ p H2, Frm [] H H2 → H2 p = some (.tup r) → Q (.ref p) H2) : rSlA K (.ref a) (some 3) none H Q := g_slF (n := 3) ha h
theorem g_slU2 {a : Addr} {x0 x1 : V} {r : List V} (ha : H a = some (.tup (x0 :: x1 :: r))) (h : ∀ p H2, Frm [] H H2 → H2 p = some (.tup [x0, x1]) → Q (.ref p) H2) : rSlA K (.ref a) none (some 2) H Q := g_slU (n := 2) ha h
theorem g_slU3 {a : Addr} {x0 x1 x2 : V} {r : List V} (ha : H a = some (.tup (x0 :: x1 :: x2 :: r))) (h : ∀ p H2, Frm [] H H2 → H2 p = some (.tup [x0, x1, x2]) → Q (.ref p) H2) : rSlA K (.ref a) none (some 3) H Q := g_slU (n := 3) ha h
theorem g_sl {r : V → Option Int → Option Int → Hp → VK → Prop} {tl th : TO} (q : te σ H fun x H1 => tl σ H1 fun l H2 => th σ H2 fun u H3 => r x l u H3 Q) : tSl r te tl th σ H Q := q
theorem g_part {Q : Option Int → Hp → Prop} (q : te σ H (KPart Q)) : tPart te σ H Q := q
theorem g_partI {Q : Option Int → Hp → Prop} {i : Int} (q : Q (some i) H) : KPart Q (.int i) H := ⟨i, rfl, q⟩
theorem g_nopart {Q : Option Int → Hp → Prop} (q : Q none H) : tNoPart σ H Q := q
theorem g_catL {a b : Addr} {xs ys : List V} (ha : H a = some (.lst xs)) (hb : H b = some (.lst ys)) (hl : xs.length + ys.length ≤ 1000000) (h : ∀ p H2, H p = none → Frm [] H H2 → H2 p = some (.lst (xs ++ ys)) → Q (.ref p) H2) : rCat (.ref a) (.ref b) H Q :=
  ⟨a, b, xs, ys, rfl, rfl, ha, hb, szl hl, fun p hp => h p _ hp (Frm.new hp) upd_same⟩
/-! calls -/
theorem g_cb {r : List V → Hp → VK → Prop} (q : tl σ H fun vs H1 => r vs H1 Q) : tCB r tl σ H Q := q
theorem g_call {sp : Sp} {dvs : List V} {E : XK} (q : tl σ H fun vs H1 => sp (vs ++ dvs) H1 Q E) : tCall sp dvs E tl σ H Q := q
theorem g_lenT {p : Addr} {ys : List V} (h : H p = some (.tup ys)) (q : Q (.int ys.length) H) : rLen K [.ref p] H Q := ⟨p, ys, rfl, .inr (SqT.of h), q⟩
theorem g_lenL {p : Addr} {ys : List V} (h : H p = some (.lst ys)) (q : Q (.int ys.length) H) : rLen K [.ref p] H Q := ⟨p, ys, rfl, .inl (SqL.of h), q⟩
theorem g_tupL {p : Addr} {ys : List V} (h : H p = some (.lst ys)) (q : ∀ l H2, Frm [] H H2 → H2 l = some (.tup ys) → Q (.ref l) H2) : rTupOf K [.ref p] H Q := ⟨p, ys, rfl, .inl ⟨SqL.of h, fun l hl => q l _ (Frm.new hl) upd_same⟩⟩
theorem g_lstT {p : Addr} {ys : List V} (h : H p = some (.tup ys)) (q : ∀ l H2, H l = none → Frm [] H H2 → H2 l = some (.lst ys) → Q (.ref l) H2) : rLstOf K [.ref p] H Q := ⟨p, ys, rfl, .inr (SqT.of h), fun l hl => q l _ hl (Frm.new hl) upd_same⟩
theorem g_lstL {p : Addr} {ys : List V} (h : H p = some (.lst ys)) (q : ∀ l H2, H l = none → Frm [] H H2 → H2 l = some (.lst ys) → Q (.ref l) H2) : rLstOf K [.ref p] H Q := ⟨p, ys, rfl, .inl (SqL.of h), fun l hl => q l _ hl (Frm.new hl) upd_same⟩
theorem g_int1 {i : Int} (q : Q (.int i) H) : rInt1 [.int i] H Q := .inl ⟨i, rfl, q⟩
theorem g_abs {i : Int} (q : Q (.int (if i < 0 then -i else i)) H) : rAbs [.int i] H Q := ⟨i, rfl, q⟩
theorem g_max2 {i j : Int} (q : Q (.int (if j > i then j else i)) H) : rMax2 [.int i, .int j] H Q := ⟨i, j, rfl, q⟩
theorem g_bm {T : String} {r : V → List V → Hp → VK → Prop} {to : TE} (q : to σ H fun x H1 => tyV K T x H1 ∧ tl σ H1 fun xs H2 => r x xs H2 Q) : tBM K T r to tl σ H Q := q
theorem ty_L {l : Addr} {xs : List V} {P : Prop} (h : H l = some (.lst xs)) (q : P) : tyV K "list" (.ref l) H ∧ P := ⟨.inl ⟨rfl, _, SqL.of h⟩, q⟩
theorem g_app {l : Addr} {xs : List V} (h : H l = some (.lst xs)) (hl : xs.length < 1000000) (q : Q .non (upd H l (.lst (xs ++ [x])))) : rAppend (.ref l) [x] H Q := ⟨l, xs, x, rfl, rfl, h, szlt hl, q⟩
theorem g_ext {l b : Addr} {xs zs : List V} (h : H l = some (.lst xs)) (hb : H b = some (.lst zs)) (hl : xs.length + zs.length ≤ 1000000) (q : Q .non (upd H l (.lst (xs ++ zs)))) : rExtend (.ref l) [.ref b] H Q := ⟨l, b, xs, zs, rfl, rfl, h, hb, szl hl, q⟩
/-! fields -/
theorem g_fld {f : Str} {te : TE} (q : te σ H (KFld K f Q)) : tFld K te f σ H Q := q
theorem g_fldI {a C dx : Addr} {fs : List (Str × V)} {f : Str} (h : H a = some (.ins C dx fs)) (c : Cls K C) (n : NoAttr K C f) (l : fs.lookup f = some v) (q : Q v H) : KFld K f Q (.ref a) H := ⟨a, C, dx, fs, v, rfl, h, c, n, l, q⟩
/-! dicts -/
theorem g_dget {td ty : TE} (q : td σ H fun x H1 => ty σ H1 fun y H2 => KGet x y Q H2) : tDGet td ty σ H Q := q
theorem g_dgetS {a : Addr} {kvs : List (Key × V)} {k : Str} (h : H a = some (.dK kvs)) (e : valV kvs (Sum.inr k) = some v) (q : Q v H) : KGet (.ref a) (.str k) Q H := ⟨a, v, rfl, by have := DGet.k (k := Sum.inr k) h; rw [e] at this; exact this, q⟩
theorem g_dgetT {a b : Addr} {kvs : List (List Key × V)} {k : List Key} (h : H a = some (.dT kvs)) (hb : H b = some (.tup (k.map kV))) (e : valV kvs k = some v) (q : Q v H) : KGet (.ref a) (.ref b) Q H := ⟨a, v, rfl, by have := DGet.t h hb; rw [e] at this; exact this, q⟩
theorem g_din {td ty : TE} (q : ty σ H fun y H1 => td σ H1 fun x H2 => KIn x y Q H2) : tDIn ty td σ H Q := q
theorem g_dnin {td ty : TE} (q : ty σ H fun y H1 => td σ H1 fun x H2 => KNin x y Q H2) : tDNotIn ty td σ H Q := q
theorem g_dinS {a : Addr} {kvs : List (Key × V)} {k : Str} (h : H a = some (.dK kvs)) (q : Q (.bl (valV kvs (Sum.inr k)).isSome) H) : KIn (.ref a) (.str k) Q H := ⟨a, _, rfl, DGet.k (k := Sum.inr k) h, q⟩
theorem g_dninT {a b : Addr} {kvs : List (List Key × V)} {k : List Key} (h : H a = some (.dT kvs)) (hb : H b = some (.tup (k.map kV))) (q : Q (.bl (!(valV kvs k).isSome)) H) : KNin (.ref a) (.ref b) Q H := ⟨a, _, rfl, DGet.t h hb, q⟩
theorem g_dput {td ty tv : TE} (q : tv σ H fun v H1 => td σ H1 fun x H2 => ty σ H2 fun y H3 => KPut x y v (D.nx σ) H3) : sDPut td ty tv D σ H := q
theorem g_dputS {a : Addr} {kvs : List (Key × V)} {k : Str} {N : Hp → Prop} (h : H a = some (.dK kvs)) (hl : kvs.length < 1000000) (q : N (upd H a (.dK (putK kvs (Sum.inr k) v)))) : KPut (.ref a) (.str k) v N H := ⟨a, _, rfl, DPut.k (k := Sum.inr k) h (szlt hl), q⟩
theorem g_dputT {a b : Addr} {kvs : List (List Key × V)} {k : List Key} {N : Hp → Prop} (h : H a = some (.dT kvs)) (hb : H b = some (.tup (k.map kV))) (hl : kvs.length < 1000000) (q : N (upd H a (.dT (putK kvs k v)))) : KPut (.ref a) (.ref b) v N H := ⟨a, _, rfl, DPut.t h hb (szlt hl), q⟩
/-! tests -/
theorem g_test {Q : Bool → Hp → Prop} (q : te σ H (KB Q)) : tTest te σ H Q := q
theorem g_B {Q : Bool → Hp → Prop} (q : te σ H (KB Q)) : tB te σ H Q := q
theorem g_KB {Q : Bool → Hp → Prop} {b : Bool} (q : Q b H) : KB Q (.bl b) H := ⟨b, rfl, q⟩
theorem g_bl {b : Bool} {P : Bool → Prop} (q : P b) : ∃ k, V.bl b = .bl k ∧ P k := ⟨b, rfl, q⟩
theorem g_and {Q : Bool → Hp → Prop} (q : tt σ H fun c H1 => if c = true then tu σ H1 Q else Q false H1) : tAnd tt tu σ H Q := q
theorem g_or {Q : Bool → Hp → Prop} (q : tt σ H fun c H1 => if c = true then Q true H1 else tu σ H1 Q) : tOr tt tu σ H Q := q
theorem g_not {Q : Bool → Hp → Prop} (q : tt σ H fun c H1 => Q (!c) H1) : tNot tt σ H Q := q
theorem g_andV (q : ta σ H fun x H1 => ∃ c, x = .bl c ∧ if c = true then tb σ H1 Q else Q (.bl false) H1) : tAndV ta tb σ H Q := q
theorem g_orV (q : ta σ H fun x H1 => ∃ c, x = .bl c ∧ if c = true then Q (.bl true) H1 else tb σ H1 Q) : tOrV ta tb σ H Q := q
theorem g_notV (q : ta σ H fun x H1 => ∃ c, x = .bl c ∧ Q (.bl (!c)) H1) : tNotV ta σ H Q := q
theorem g_ifE (q : tt σ H fun c H1 => if c = true then ta σ H1 Q else tb σ H1 Q) : tIf tt ta tb σ H Q := q
theorem g_ite {b : Bool} {A B : Prop} (h1 : b = true → A) (h2 : b = false → B) : if b = true then A else B := by
  cases b with
  | true => exact iteT (h1 rfl)
  | false => exact iteF (h2 rfl)
/-! statements -/
theorem g_seq (q : t { D with nx := u D } σ H) : tSeq t u D σ H := q
theorem g_asg (q : te σ H fun x H1 => g x σ H1 D.nx) : tAsg te g D σ H := q
theorem g_name {Q : L2.St → Hp → Prop} (q : KSet i v σ Q H) : gName i v σ H Q := q
theorem g_gtup {a : Addr} {xs : List V} {n : Nat} {tg : TGs} {Q : L2.St → Hp → Prop} (h : H a = some (.tup xs)) (e : xs.length = n) (q : tg xs σ H Q) : gTup K n tg (.ref a) σ H Q := ⟨a, xs, rfl, SqT.of h, e, q⟩
theorem g_gcons {tg : TGs} {vs : List V} {Q : L2.St → Hp → Prop} (q : g v σ H fun σ' H' => tg vs σ' H' Q) : gCons g tg (v :: vs) σ H Q := ⟨v, vs, rfl, q⟩
theorem g_gnil {Q : L2.St → Hp → Prop} (q : Q σ H) : gNil [] σ H Q := ⟨rfl, q⟩
theorem g_next (q : D.nx σ H) : tNext D σ H := q
theorem g_brk (q : D.bk σ H) : tBreak D σ H := q
theorem g_ctn (q : D.ct σ H) : tCont D σ H := q
theorem g_ret (q : te σ H D.rt) : tRet te D σ H := q
theorem g_retN (q : D.rt .non H) : tRetN D σ H := q
theorem g_if (q : tt σ H fun b H1 => if b = true then t D σ H1 else u D σ H1) : tIfS tt t u D σ H := q
theorem g_drop (q : te σ H fun _ H1 => D.nx σ H1) : tDrop te D σ H := q
theorem g_aug {ti : TIp} (h : σ[i]? = some (some x)) (q : te σ H fun y H1 => ti x y H1 fun z H2 => KSet i z σ D.nx H2) : tAug i te ti D σ H := ⟨x, h, q⟩
theorem g_ipI {f : Int → Int → Int} {i j : Int} (q : Q (.int (f i j)) H) : ipI f (.int i) (.int j) H Q := ⟨i, j, rfl, rfl, q⟩
theorem g_par {i j : Nat} (q : tl σ H (KPar i j D σ)) : tPar i j tl D σ H := q
theorem g_par2 {i j : Nat} {v w : V} (q : KSet i v σ (fun s1 H1 => KSet j w s1 D.nx H1) H) : KPar i j D σ [v, w] H := ⟨v, w, rfl, q⟩
end
end K34

/-! Promises by arity, defs of the text. -/
namespace K34
open PySem PySem.Spec PyProof.Rows L2

def top (i : Nat) : Stmt := PySem.Challenge.pw_onescore_k34_whole_exchanged_statements.main.body.getD i (.Pass ⟨0, 0, 0, 0⟩)

/-! promises -/
def sp1 (R : V → Hp → VK → XK → Prop) : Sp := fun vs H Q E => ∃ a, vs = [a] ∧ R a H Q E
def sp2 (R : V → V → Hp → VK → XK → Prop) : Sp := fun vs H Q E => ∃ a b, vs = [a, b] ∧ R a b H Q E
def sp3 (R : V → V → V → Hp → VK → XK → Prop) : Sp := fun vs H Q E => ∃ a b c, vs = [a, b, c] ∧ R a b c H Q E
def sp4 (R : V → V → V → V → Hp → VK → XK → Prop) : Sp := fun vs H Q E => ∃ a b c d, vs = [a, b, c, d] ∧ R a b c d H Q E
def sp5 (R : V → V → V → V → V → Hp → VK → XK → Prop) : Sp := fun vs H Q E => ∃ a b c d e, vs = [a, b, c, d, e] ∧ R a b c d e H Q E
section
variable {H : Hp} {Q : VK} {E : XK} {a b c d e : V}
theorem to1 {R : V → Hp → VK → XK → Prop} (h : R a H Q E) : sp1 R [a] H Q E := ⟨a, rfl, h⟩
theorem to2 {R : V → V → Hp → VK → XK → Prop} (h : R a b H Q E) : sp2 R [a, b] H Q E := ⟨a, b, rfl, h⟩
theorem to3 {R : V → V → V → Hp → VK → XK → Prop} (h : R a b c H Q E) : sp3 R [a, b, c] H Q E := ⟨a, b, c, rfl, h⟩
theorem to4 {R : V → V → V → V → Hp → VK → XK → Prop} (h : R a b c d H Q E) : sp4 R [a, b, c, d] H Q E := ⟨a, b, c, d, rfl, h⟩
theorem to5 {R : V → V → V → V → V → Hp → VK → XK → Prop} (h : R a b c d e H Q E) : sp5 R [a, b, c, d, e] H Q E := ⟨a, b, c, d, e, rfl, h⟩
end

/-- a def of the text stands under its name -/
def At (K : PySem.W.Frag) (mg : Str → Option Value) (x : Str) (st : Stmt) (ps : List Str) : Prop := ∃ f fd, Fun K x x st f fd ∧ mg x = some (.ref f) ∧ Binds K fd ps []
/-- .. and keeps a promise -/
def Has (P : Program) (w : World) (K : PySem.W.Frag) (mg : Str → Option Value) (base : Heap) (CX : CXT) (x : Str) (ps : List Str) (k : Nat) (sp : Sp) : Prop :=
  ∃ f fd, FnOk P w K mg base CX k f fd ps sp ∧ mg x = some (.ref f) ∧ PySem.W.keepIn K (.ref f) = true ∧ Binds K fd ps []
section
variable {P : Program} {w : World} {K : PySem.W.Frag} {mg : Str → Option Value} {base : Heap} {CX : CXT} {x : Str} {ps N : List Str} {st : Stmt} {k j : Nat} {sp : Sp}
theorem Has.mono (h : Has P w K mg base CX x ps j sp) (l : j ≤ k) : Has P w K mg base CX x ps k sp := by
  obtain ⟨f, fd, F, r⟩ := h
  exact ⟨f, fd, F.mono l, r⟩
theorem Has.imp {sp' : Sp} (h : Has P w K mg base CX x ps j sp) (l : ∀ vs H Q E, sp' vs H Q E → sp vs H Q E) : Has P w K mg base CX x ps j sp' := by
  obtain ⟨f, fd, F, r⟩ := h
  exact ⟨f, fd, F.imp l, r⟩
/-- nothing can be asked -/
theorem has_no (A : At K mg x st ps) (no : ∀ vs H Q E, ¬ sp vs H Q E) : Has P w K mg base CX x ps k sp := by
  obtain ⟨f, fd, F, m, b⟩ := A
  exact ⟨f, fd, ⟨fun vs H Q E h => absurd h (no vs H Q E), fun A outer s H args us vs Q E _ _ _ _ h => absurd h (no vs H Q E)⟩, m, F.kp, b⟩
theorem has_mk (A : At K mg x st ps) (S : FnScope N ps (defScope st)) (len : ∀ vs H Q E, sp vs H Q E → vs.length = ps.length)
    (body : ∀ (f : Addr) (cdv : Value) (A : Around) (outer : List Env) (s : Shared) (H : Hp) (vs : List V) (Q : VK) (E : XK), Room k (A.deeper (envOfC x (defScope st) s.heap.objs.size f cdv)) → sp vs H Q E →
      ∃ t, PSs (cxOf CX0 P w K mg base N x (defScope st) f cdv A outer s H E).nox (defBody st) t ∧ t { nx := fun _ H' => Q .non H', rt := Q } (start N vs) H) : Has P w K mg base CX0 x ps (k + 1) sp := by
  obtain ⟨f, fd, F, m, b⟩ := A
  exact ⟨f, fd, F.ok S len fun cdv A outer s H vs Q E hr h => body f cdv A outer s H vs Q E hr h, m, F.kp, b⟩
theorem has_mkX (A : At K mg x st ps) (S : FnScope N ps (defScope st)) (len : ∀ vs H Q E, sp vs H Q E → vs.length = ps.length)
    (body : ∀ (f : Addr) (cdv : Value) (A : Around) (outer : List Env) (s : Shared) (H : Hp) (vs : List V) (Q : VK) (E : XK), Room k (A.deeper (envOfC x (defScope st) s.heap.objs.size f cdv)) → sp vs H Q E →
      ∃ t, PSs (cxOf (L2.CX P w) P w K mg base N x (defScope st) f cdv A outer s H E) (defBody st) t ∧ t { nx := fun _ H' => Q .non H', rt := Q } (start N vs) H) : Has P w K mg base (L2.CX P w) x ps (k + 1) sp := by
  obtain ⟨f, fd, F, m, b⟩ := A
  exact ⟨f, fd, F.okX S len fun cdv A outer s H vs Q E hr h => body f cdv A outer s H vs Q E hr h, m, F.kp, b⟩
end
section
variable {X : Cx} {CX : CXT} {x : Str} {ps : List Str} {k : Nat} {sp : Sp} {E : XK} {p pos : Pos} {e : Expr} {es : List Expr} {t : TA}
theorem pe_has (h : Has X.prog X.w X.K X.mg X.base CX x ps k sp) (hr : Room k X.A) (hx : Passes CX X E) (ha : PA X (e :: es) t) (hg : Gl X x := by rfl)
    (hdb : (x == ("__debug__" : Str)) = false := by decide) (he : starEach (e :: es) X.env = (false, eval e X.env) :: starEach es X.env := by rfl) (hpl : (backTo pos (starEach es X.env)).any (·.1) = false := by rfl) :
    PE X (.Call (.Name x p) (e :: es) [] pos) (tCall sp [] E t) := by
  obtain ⟨f, fd, F, m, kp, b⟩ := h
  exact pe_call F hr hg m kp b .nil hx ha hdb he hpl
/-- a call that raises nothing -/
theorem pe_h0 (h : Has X.prog X.w X.K X.mg X.base CX0 x ps k sp) (hr : Room k X.A) (ha : PA X (e :: es) t) (hg : Gl X x := by rfl)
    (hdb : (x == ("__debug__" : Str)) = false := by decide) (he : starEach (e :: es) X.env = (false, eval e X.env) :: starEach es X.env := by rfl) (hpl : (backTo pos (starEach es X.env)).any (·.1) = false := by rfl) :
    PE X (.Call (.Name x p) (e :: es) [] pos) (tCall sp [] E0 t) := pe_has h hr pass0 ha hg hdb he hpl
end
/-! a comprehension over a dict that the call before has made: it is known as it stands from then on -/
def tFz (te : TE) : TE := fun σ H Q => te σ H fun x H1 => ∃ d u, x = .ref d ∧ H1 d = some u ∧ Mut (some u) ∧ ∀ od, Q x (upd H1 d (.frz od u))
theorem pe_fz {X : Cx} {e : Expr} {te : TE} (h : PE X e te) : PE X e (tFz te) := by
  refine ⟨fun pn s0 sg h0 Q0 I0 hw => thn (h.run pn s0 sg h0 _ I0 hw) fun u s1 ⟨x, H1, I1, r1, d, o, ex, ed, mu, q⟩ => ?_⟩
  obtain ⟨od, I2⟩ := I1.lock ed mu
  exact ⟨x, _, I2, r1, q od⟩
end K34

/-! What is compared: data without surprises. -/
namespace K34
open PySem

abbrev strOk (x : Str) : Bool := PyData.strOk x
theorem bqS (a b : Str) : (a == b) = decide (a = b) := by
  by_cases h : a = b
  · subst h; simp
  · rw [decide_eq_false h]; simpa using h
theorem bqI (a b : Int) : (a == b) = decide (a = b) := by
  by_cases h : a = b
  · subst h; simp
  · rw [decide_eq_false h]; simpa using h
def signs : List Str := ["+", "-", "*", "<", "=="]
def goodV : Val → Prop
  | .num n => 0 ≤ n ∧ n < BIG
  | .nam x => strOk x = true
  | .op s l r => s ∈ signs ∧ goodV l ∧ goodV r
def dpV : Val → Nat
  | .num _ => 1
  | .nam _ => 1
  | .op _ l r => max (dpV l) (dpV r) + 1
def okV (v : Val) : Prop := goodV v ∧ dpV v ≤ 8
def goodF : FS → Prop
  | .msg f t l v x => strOk f = true ∧ strOk t = true ∧ strOk l = true ∧ okV v ∧ strOk x = true
  | .set e x v => strOk e = true ∧ strOk x = true ∧ okV v
  | .ask e x => strOk e = true ∧ strOk x = true
  | .ite e v => strOk e = true ∧ okV v
  | .whl e v => strOk e = true ∧ okV v
  | .call _ _ => False
theorem sign_ok {s : Str} (h : s ∈ signs) : strOk s = true := by
  simp only [signs, List.mem_cons, List.not_mem_nil, or_false] at h
  rcases h with rfl | rfl | rfl | rfl | rfl <;> decide +kernel

theorem layV : ∀ v : Val, goodV v → (encV v).canLay0 = true
  | .num n, _ => by simp only [encV, PyData.canLay0, PyData.canLayAll0]; decide +kernel
  | .nam x, h => by
    have h' : PyData.strOk x = true := h
    simp only [encV, PyData.canLay0, PyData.canLayAll0, h']; decide +kernel
  | .op s l r, h => by
    simp only [goodV] at h
    have h' : PyData.strOk s = true := sign_ok h.1
    simp only [encV, PyData.canLay0, PyData.canLayAll0, layV l h.2.1, layV r h.2.2, h', Bool.and_self]
theorem depV : ∀ v : Val, (encV v).depth = dpV v
  | .num n => by simp [encV, PyData.depth, PyData.depthAll, dpV]
  | .nam x => by simp [encV, PyData.depth, PyData.depthAll, dpV]
  | .op s l r => by simp [encV, PyData.depth, PyData.depthAll, dpV, depV l, depV r]
theorem eqv_str (a b : Str) : PyData.eqv (.str a) (.str b) = decide (a = b) := by simp only [PyData.eqv, bqS, bqI]
theorem eqv_int (a b : Int) : PyData.eqv (.int a) (.int b) = decide (a = b) := by simp only [PyData.eqv, bqS, bqI]
theorem num_nam : decide (("number" : Str) = "name") = false := by decide +kernel
theorem nam_num : decide (("name" : Str) = "number") = false := by decide +kernel
theorem eqvAll2 (a b c d : PyData) : PyData.eqvAll [a, b] [c, d] = (PyData.eqv a c && PyData.eqv b d) := by
  simp only [PyData.eqvAll, Bool.and_true]
theorem eqvAll3 (a b c d e f : PyData) : PyData.eqvAll [a, b, c] [d, e, f] = (PyData.eqv a d && (PyData.eqv b e && PyData.eqv c f)) := by
  simp only [PyData.eqvAll, Bool.and_true]
theorem eqvT (a b : List PyData) : PyData.eqv (.tuple a) (.tuple b) = PyData.eqvAll a b := by simp only [PyData.eqv]
theorem eqvAll23 (a b d e f : PyData) : PyData.eqvAll [a, b] [d, e, f] = false := by
  simp only [PyData.eqvAll, Bool.and_false]
theorem eqvAll32 (a b d e f : PyData) : PyData.eqvAll [d, e, f] [a, b] = false := by
  simp only [PyData.eqvAll, Bool.and_false]
theorem eqvV (a : Val) : ∀ b : Val, PyData.eqv (encV a) (encV b) = decide (a = b) := by
  induction a with
  | num n =>
    intro b
    cases b with
    | num m => rw [encV, encV, eqvT, eqvAll2, eqv_str, eqv_int]; simp
    | nam m => rw [encV, encV, eqvT, eqvAll2, eqv_str, num_nam]; simp
    | op s l r => rw [encV, encV, eqvT, eqvAll23]; simp
  | nam n =>
    intro b
    cases b with
    | num m => rw [encV, encV, eqvT, eqvAll2, eqv_str, nam_num]; simp
    | nam m => rw [encV, encV, eqvT, eqvAll2, eqv_str, eqv_str]; simp
    | op s l r => rw [encV, encV, eqvT, eqvAll23]; simp
  | op s l r ihl ihr =>
    intro b
    cases b with
    | num m => rw [encV, encV, eqvT, eqvAll32]; simp
    | nam m => rw [encV, encV, eqvT, eqvAll32]; simp
    | op s' l' r' =>
      rw [encV, encV, eqvT, eqvAll3, eqv_str, ihl, ihr]
      by_cases h1 : s = s' <;> by_cases h2 : l = l' <;> by_cases h3 : r = r' <;> simp [h1, h2, h3]

def encL : Look → PyData
  | .send t l v => .tuple [.str "send", .str t, .str l, encV v]
  | .get f l x => .tuple [.str "get", .str f, .str l, .str x]
  | .ite v a => .tuple [.str "if", encV v, .str a]
  | .whl p v a => .tuple [.str "while", .int p, encV v, .str a]
  | .set x v => .tuple [.str "set", .str x, encV v]
  | .ask x => .tuple [.str "ask", .str x]
  | .bad => .none

def okL : Look → Prop
  | .send t l v => strOk t = true ∧ strOk l = true ∧ okV v
  | .get f l x => strOk f = true ∧ strOk l = true ∧ strOk x = true
  | .ite v a => okV v ∧ strOk a = true
  | .whl _ v a => okV v ∧ strOk a = true
  | .set x v => strOk x = true ∧ okV v
  | .ask x => strOk x = true
  | .bad => False
theorem lk_ok {e a : Str} {p : Nat} {f : FS} (h : goodF f) (ha : strOk a = true) : okL (lk e p f a) := by
  cases f with
  | msg f t l v x =>
    simp only [goodF] at h
    simp only [lk]
    split
    · exact ⟨h.2.1, h.2.2.1, h.2.2.2.1⟩
    · exact ⟨h.1, h.2.2.1, h.2.2.2.2⟩
  | set e x v => exact ⟨h.2.1, h.2.2⟩
  | ask e x => exact h.2
  | ite e v => exact ⟨h.2, ha⟩
  | whl e v => exact ⟨h.2, ha⟩
  | call p es => exact h
theorem shL {l : Look} (h : okL l) : SeqAt.shaped (encL l) = true := by
  unfold SeqAt.shaped
  rw [Bool.and_eq_true]
  cases l with
  | send t l v =>
    obtain ⟨h1, h2, h3, h4⟩ := h
    refine ⟨?_, decide_eq_true ?_⟩
    · simp only [encL, PyData.canLay0, PyData.canLayAll0, h1, h2, layV v h3]; decide +kernel
    · simp only [encL, PyData.depth, PyData.depthAll, depV]; omega
  | get f l x =>
    obtain ⟨h1, h2, h3⟩ := h
    refine ⟨?_, decide_eq_true ?_⟩
    · simp only [encL, PyData.canLay0, PyData.canLayAll0, h1, h2, h3]; decide +kernel
    · simp only [encL, PyData.depth, PyData.depthAll]; omega
  | ite v a =>
    obtain ⟨⟨h1, h2⟩, h3⟩ := h
    refine ⟨?_, decide_eq_true ?_⟩
    · simp only [encL, PyData.canLay0, PyData.canLayAll0, h3, layV v h1]; decide +kernel
    · simp only [encL, PyData.depth, PyData.depthAll, depV]; omega
  | whl p v a =>
    obtain ⟨⟨h1, h2⟩, h3⟩ := h
    refine ⟨?_, decide_eq_true ?_⟩
    · simp only [encL, PyData.canLay0, PyData.canLayAll0, h3, layV v h1]; decide +kernel
    · simp only [encL, PyData.depth, PyData.depthAll, depV]; omega
  | set x v =>
    obtain ⟨h1, h3, h4⟩ := h
    refine ⟨?_, decide_eq_true ?_⟩
    · simp only [encL, PyData.canLay0, PyData.canLayAll0, h1, layV v h3]; decide +kernel
    · simp only [encL, PyData.depth, PyData.depthAll, depV]; omega
  | ask x =>
    refine ⟨?_, decide_eq_true ?_⟩
    · simp only [encL, PyData.canLay0, PyData.canLayAll0, show PyData.strOk x = true from h]; decide +kernel
    · simp only [encL, PyData.depth, PyData.depthAll]; omega
  | bad => exact h.elim
theorem natcast_eq (a b : Nat) : decide ((a : Int) = (b : Int)) = decide (a = b) := by
  by_cases h : a = b
  · subst h; simp
  · rw [decide_eq_false h, decide_eq_false (by omega)]
def lw : Look → Str
  | .send _ _ _ => "send"
  | .get _ _ _ => "get"
  | .ite _ _ => "if"
  | .whl _ _ _ => "while"
  | .set _ _ => "set"
  | .ask _ => "ask"
  | .bad => "bad"
theorem encL_head {l : Look} (h : okL l) : ∃ ds, encL l = .tuple (.str (lw l) :: ds) := by
  cases l <;> first | exact ⟨_, rfl⟩ | exact h.elim
theorem wd1 : decide (("send" : Str) = "get") = false ∧ decide (("send" : Str) = "if") = false ∧ decide (("send" : Str) = "while") = false ∧ decide (("send" : Str) = "set") = false ∧ decide (("send" : Str) = "ask") = false := by decide +kernel
theorem wd2 : decide (("get" : Str) = "send") = false ∧ decide (("get" : Str) = "if") = false ∧ decide (("get" : Str) = "while") = false ∧ decide (("get" : Str) = "set") = false ∧ decide (("get" : Str) = "ask") = false := by decide +kernel
theorem wd3 : decide (("if" : Str) = "send") = false ∧ decide (("if" : Str) = "get") = false ∧ decide (("if" : Str) = "while") = false ∧ decide (("if" : Str) = "set") = false ∧ decide (("if" : Str) = "ask") = false := by decide +kernel
theorem wd4 : decide (("while" : Str) = "send") = false ∧ decide (("while" : Str) = "get") = false ∧ decide (("while" : Str) = "if") = false ∧ decide (("while" : Str) = "set") = false ∧ decide (("while" : Str) = "ask") = false := by decide +kernel
theorem wd5 : decide (("set" : Str) = "send") = false ∧ decide (("set" : Str) = "get") = false ∧ decide (("set" : Str) = "if") = false ∧ decide (("set" : Str) = "while") = false ∧ decide (("set" : Str) = "ask") = false := by decide +kernel
theorem wd6 : decide (("ask" : Str) = "send") = false ∧ decide (("ask" : Str) = "get") = false ∧ decide (("ask" : Str) = "if") = false ∧ decide (("ask" : Str) = "while") = false ∧ decide (("ask" : Str) = "set") = false := by decide +kernel
theorem eqvA_cons (a b : PyData) (as bs : List PyData) : PyData.eqvAll (a :: as) (b :: bs) = (PyData.eqv a b && PyData.eqvAll as bs) := by rw [PyData.eqvAll]
theorem eqvA_nil : PyData.eqvAll [] [] = true := by rw [PyData.eqvAll]
theorem eqvL {a b : Look} (ha : okL a) (hb : okL b) : PyData.eqv (encL a) (encL b) = decide (a = b) := by
  cases a <;> cases b <;> first
    | exact ha.elim
    | exact hb.elim
    | (simp only [encL, eqvT, eqvA_cons, eqv_str, wd1, wd2, wd3, wd4, wd5, wd6, Bool.false_and]; exact (decide_eq_false (by intro h; cases h)).symm)
    | (simp only [encL, eqvT, eqvA_cons, eqvA_nil, eqv_str, eqv_int, eqvV, Bool.and_true, decide_true, Bool.true_and, Look.send.injEq, Look.get.injEq, Look.ite.injEq, Look.whl.injEq, Look.set.injEq, Look.ask.injEq, Bool.decide_and, natcast_eq]
       try rfl)
end K34

/-! A score as an object. -/
namespace K34
open PySem PySem.Spec PyProof.Rows L2

structure ScC (K : PySem.W.Frag) (C : Addr) : Prop where
  cl : Cls K C
  n1 : NoAttr K C "ends"
  n2 : NoAttr K C "block"
  n3 : NoAttr K C "statements"
  n4 : NoAttr K C "next"
structure GoodR (R : List Row) : Prop where
  ok : ∀ r ∈ R, okRow r
  good : ∀ r ∈ R, goodF r.1
  le : ∀ r ∈ R, ∀ y ∈ r.2, y ≤ R.length
  few : R.length ≤ 150
/-- v is the score of the rows R; its ends stand at e -/
def Scr (K : PySem.W.Frag) (C : Addr) (H : Hp) (v e : V) (R : List Row) : Prop := ∃ a dx bl st nx xs ys, v = .ref a ∧ H a = some (.ins C dx [("ends", e), ("block", bl), ("statements", .ref st), ("next", .ref nx)]) ∧
  ScC K C ∧ H st = some (.tup xs) ∧ DL H xs (R.map fun r => encF r.1) ∧ H nx = some (.tup ys) ∧ DL H ys (R.map fun r => PyData.tuple (r.2.map encNat)) ∧ GoodR R
theorem Scr.frm {K : PySem.W.Frag} {C : Addr} {H H' : Hp} {v e : V} {R : List Row} (h : Scr K C H v e R) (f : Frm [] H H') : Scr K C H' v e R := by
  obtain ⟨a, dx, bl, st, nx, xs, ys, h1, h2, h3, h4, h5, h6, h7, h8⟩ := h
  exact ⟨a, dx, bl, st, nx, xs, ys, h1, f.get0 h2, h3, f.get0 h4, h5.frm f, f.get0 h6, h7.frm f, h8⟩
theorem lookS {e b s n : V} : List.lookup ("statements" : Str) [(("ends" : Str), e), ("block", b), ("statements", s), ("next", n)] = some s := by
  simp only [List.lookup, show (("statements" : Str) == "ends") = false from by decide +kernel, show (("statements" : Str) == "block") = false from by decide +kernel, show (("statements" : Str) == "statements") = true from by decide +kernel]
theorem lookN {e b s n : V} : List.lookup ("next" : Str) [(("ends" : Str), e), ("block", b), ("statements", s), ("next", n)] = some n := by
  simp only [List.lookup, show (("next" : Str) == "ends") = false from by decide +kernel, show (("next" : Str) == "block") = false from by decide +kernel, show (("next" : Str) == "statements") = false from by decide +kernel, show (("next" : Str) == "next") = true from by decide +kernel]
theorem lookE {e b s n : V} : List.lookup ("ends" : Str) [(("ends" : Str), e), ("block", b), ("statements", s), ("next", n)] = some e := by
  simp only [List.lookup, show (("ends" : Str) == "ends") = true from by decide +kernel]
/-- a statement of the score, and what stands behind it -/
theorem Scr.at {K : PySem.W.Frag} {C : Addr} {H : Hp} {v e : V} {R : List Row} (h : Scr K C H v e R) {i : Nat} {r : Row} (hr : R[i]? = some r) :
    ∃ a dx bl st nx xs ys x y, v = .ref a ∧ H a = some (.ins C dx [("ends", e), ("block", bl), ("statements", .ref st), ("next", .ref nx)]) ∧ ScC K C ∧ H st = some (.tup xs) ∧ H nx = some (.tup ys) ∧
      atI xs (i : Int) = some x ∧ atI ys (i : Int) = some y ∧ D H x (encF r.1) ∧ D H y (.tuple (r.2.map encNat)) ∧ xs.length = R.length ∧ okRow r ∧ goodF r.1 ∧ GoodR R := by
  obtain ⟨a, dx, bl, st, nx, xs, ys, h1, h2, h3, h4, h5, h6, h7, g⟩ := h
  obtain ⟨x, ex, dx'⟩ := h5.get (i := i) (by rw [List.getElem?_map, hr]; rfl)
  obtain ⟨y, ey, dy⟩ := h7.get (i := i) (by rw [List.getElem?_map, hr]; rfl)
  refine ⟨a, dx, bl, st, nx, xs, ys, x, y, h1, h2, h3, h4, h6, atI_nat ex, atI_nat ey, dx', dy, by rw [h5.len, List.length_map], g.ok r (List.mem_of_getElem? hr), g.good r (List.mem_of_getElem? hr), g⟩

theorem ans_cases {r : Row} (h : okRow r) {a : Str} (ha : a ∈ ansL r.1) : (r.1.two = false ∧ a = "" ∧ ∃ u, r.2 = [u]) ∨ (r.1.two = true ∧ (a = "yes" ∨ a = "no") ∧ ∃ u v, r.2 = [u, v]) := by
  obtain ⟨f, l⟩ := r
  unfold okRow at h
  unfold ansL at ha
  simp only at h ha ⊢
  cases c : f.two with
  | true =>
    rw [c, if_pos rfl] at h ha
    match l, h with
    | [u, v], _ => exact .inr ⟨rfl, by simpa using ha, u, v, rfl⟩
  | false =>
    rw [c, if_neg (by decide)] at h ha
    match l, h with
    | [u], _ => exact .inl ⟨rfl, by simpa using ha, u, rfl⟩
theorem yes_no2 : decide (V.str "yes" = V.str "no") = false := by decide +kernel

end K34

/-! Loops; the heap without an object; what is known of the text. -/
namespace K34
open PySem PySem.Spec PyProof.Rows L2

/-- the heap without an object of one's own -/
def wo (H : Hp) (r : Addr) : Hp := fun a => if a = r then none else H a
theorem wo_self {H : Hp} {r : Addr} : wo H r r = none := if_pos rfl
theorem wo_ne {H : Hp} {r a : Addr} (h : a ≠ r) : wo H r a = H a := if_neg h
theorem wo_frm {H : Hp} {r : Addr} : Frm [] (wo H r) H := by
  have key : ∀ a o, wo H r a = some o → H a = some o := fun a o e => by
    by_cases h : a = r
    · rw [h, wo_self] at e; cases e
    · rwa [wo_ne h] at e
  exact ⟨fun a o _ e => key a o e, fun a xs e => key a _ e⟩
theorem wo_mono {S : List Addr} {H H' : Hp} {r : Addr} (f : Frm S H H') : Frm S (wo H r) (wo H' r) :=
  ⟨fun a o ha e => by
    by_cases h : a = r
    · rw [h, wo_self] at e; cases e
    · rw [wo_ne h] at e ⊢; exact f.keep a o ha e, fun a xs e => by
    by_cases h : a = r
    · rw [h, wo_self] at e; cases e
    · rw [wo_ne h] at e ⊢; exact f.tup a xs e⟩
theorem wo_upd {H : Hp} {r : Addr} {o : HO} : wo (upd H r o) r = wo H r := by
  funext a
  by_cases h : a = r
  · rw [h, wo_self, wo_self]
  · rw [wo_ne h, wo_ne h, upd_ne h]
/-- what was there before the object was made -/
theorem wo_old {S : List Addr} {H H' : Hp} {r : Addr} (f : Frm S H H') (h : H r = none) : Frm S H (wo H' r) :=
  ⟨fun a o ha e => by rw [wo_ne (ne_of_none e h)]; exact f.keep a o ha e, fun a xs e => by rw [wo_ne (ne_of_none e h)]; exact f.tup a xs e⟩
theorem wo_none {H : Hp} {r a : Addr} (h : H a = none) : wo H r a = none := by
  by_cases e : a = r
  · rw [e, wo_self]
  · rw [wo_ne e, h]
theorem wo_back {H : Hp} {r a : Addr} {o : HO} (h : wo H r a = some o) : a ≠ r ∧ H a = some o := by
  by_cases e : a = r
  · rw [e, wo_self] at h; cases h
  · rw [wo_ne e] at h; exact ⟨e, h⟩

/-! loops -/
section
variable {K : PySem.W.Frag} {σ : L2.St} {H : Hp} {Q : VK} {g : TG} {tb : TS} {D : Ends} {te tl : TE}
def KForL (K : PySem.W.Frag) (g : TG) (tb : TS) (D : Ends) (σ : L2.St) : V → Hp → Prop := fun x H1 => ∃ a, x = .ref a ∧ (∃ xs, SqL K H1 a xs) ∧ ∃ W : Nat → Nat → L2.St → Hp → Prop, (∃ m, W 0 m σ H1) ∧ ∀ i m σ H, W i m σ H →
  ((Itl K a).stop i H ∧ D.nx σ H) ∨ ((Itl K a).go i H ∧ ∃ N : L2.St → Hp → Prop, (∀ σ' H', N σ' H' → ∃ m', m' < m ∧ W (i + 1) m' σ' H') ∧ ∀ x H', (Itl K a).yld i H x H' → g x σ H' fun σ2 H2 => tb { D with nx := N, ct := N, bk := D.nx } σ2 H2)
def KForT (K : PySem.W.Frag) (g : TG) (tb : TS) (D : Ends) (σ : L2.St) : V → Hp → Prop := fun x H1 => ∃ a, x = .ref a ∧ (∃ xs, SqT K H1 a xs) ∧ ∃ W : Nat → Nat → L2.St → Hp → Prop, (∃ m, W 0 m σ H1) ∧ ∀ i m σ H, W i m σ H →
  ((Itt K a).stop i H ∧ D.nx σ H) ∨ ((Itt K a).go i H ∧ ∃ N : L2.St → Hp → Prop, (∀ σ' H', N σ' H' → ∃ m', m' < m ∧ W (i + 1) m' σ' H') ∧ ∀ x H', (Itt K a).yld i H x H' → g x σ H' fun σ2 H2 => tb { D with nx := N, ct := N, bk := D.nx } σ2 H2)
theorem g_forL (q : tl σ H (KForL K g tb D σ)) : tFor (iList K tl) g tb D σ H := q
theorem g_forT (q : tl σ H (KForT K g tb D σ)) : tFor (iTup K tl) g tb D σ H := q
/-- Pv: what holds before turn i; the list that is walked stands -/
theorem KForL.mk {a : Addr} {xs : List V} (Pv : Nat → L2.St → Hp → Prop) (hl : ∀ i σ H, i ≤ xs.length → Pv i σ H → H a = some (.lst xs)) (h0 : Pv 0 σ H)
    (hs : ∀ i x σ H, xs[i]? = some x → Pv i σ H → g x σ H fun σ2 H2 => tb { D with nx := Pv (i + 1), ct := Pv (i + 1), bk := D.nx } σ2 H2) (hd : ∀ σ H, Pv xs.length σ H → D.nx σ H) : KForL K g tb D σ (.ref a) H :=
  ⟨a, rfl, ⟨xs, SqL.of (hl 0 σ H (Nat.zero_le _) h0)⟩, for_list Pv h0 (fun i σ H hi p => SqL.of (hl i σ H hi p)) hs hd⟩
theorem KForT.mk {a : Addr} {xs : List V} (Pv : Nat → L2.St → Hp → Prop) (hl : ∀ i σ H, i ≤ xs.length → Pv i σ H → H a = some (.tup xs)) (h0 : Pv 0 σ H)
    (hs : ∀ i x σ H, xs[i]? = some x → Pv i σ H → g x σ H fun σ2 H2 => tb { D with nx := Pv (i + 1), ct := Pv (i + 1), bk := D.nx } σ2 H2) (hd : ∀ σ H, Pv xs.length σ H → D.nx σ H) : KForT K g tb D σ (.ref a) H :=
  ⟨a, rfl, ⟨xs, SqT.of (hl 0 σ H (Nat.zero_le _) h0)⟩, for_tup Pv h0 (fun i σ H hi p => SqT.of (hl i σ H hi p)) hs hd⟩
end

/-! the text -/
structure Tx (K : PySem.W.Frag) (mg : Str → Option Value) : Prop where
  len : mg "len" = none
  all : mg "all" = none
  any : mg "any" = none
  abs : mg "abs" = none
  int : mg "int" = none
  tuple : mg "tuple" = none
  list : mg "list" = none
  str : mg "str" = none
  max : mg "max" = none
  range : mg "range" = none
  enumerate : mg "enumerate" = none
  set : mg "set" = none
  isinstance : mg "isinstance" = none
  bool : mg "bool" = none
  dict : mg "dict" = none
  zip : mg "zip" = none
  me : ∃ t, mg "MOST_ENDS" = some (.int 6 t)
  ml : ∃ t, mg "MOST_LOOPS" = some (.int 3 t)
  ms : ∃ t, mg "MOST_STATEMENTS" = some (.int 150 t)
  br : ∃ a, mg "BRANCHES" = some (.ref a) ∧ ∀ H, SqT K H a [.str "if", .str "while"]
theorem g_inK {K : PySem.W.Frag} {H : Hp} {Q : VK} {x : V} {p : Addr} {xs : List V} (h : SqT K H p xs) (f1 : flatV x = true) (f2 : xs.all flatV = true) (q : Q (.bl (inV x xs)) H) : rIn K false x (.ref p) H Q := ⟨p, xs, rfl, .inr h, f1, f2, q⟩
theorem inV_int (n i j : Nat) : inV (.int n) [.int i, .int j] = (decide (i = n) || decide (j = n)) := by
  unfold inV
  simp only [List.any_cons, List.any_nil, Bool.or_false]
  have key : ∀ a b : Nat, eqV (.int a) (.int b) = decide (a = b) := fun a b => by
    show ((a : Int) == (b : Int)) = decide (a = b)
    rw [bqI, natcast_eq]
  rw [key, key]
theorem hu65 {k : Nat} {A : Around} (hr : Room k A) : A.units + 65 < cLine := by have := hr.un; omega
end K34

/-! Several objects of one's own; a dict of pairs; the search for a witness. -/
namespace K34
open PySem PySem.Spec PyProof.Rows L2

def woS (S : List Addr) (H : Hp) : Hp := fun a => if a ∈ S then none else H a
theorem woS_in {S : List Addr} {H : Hp} {a : Addr} (h : a ∈ S) : woS S H a = none := if_pos h
theorem woS_ne {S : List Addr} {H : Hp} {a : Addr} (h : a ∉ S) : woS S H a = H a := if_neg h
theorem woS_back {S : List Addr} {H : Hp} {a : Addr} {o : HO} (h : woS S H a = some o) : a ∉ S ∧ H a = some o := by
  by_cases e : a ∈ S
  · rw [woS_in e] at h; cases h
  · rw [woS_ne e] at h; exact ⟨e, h⟩
theorem woS_frm {S : List Addr} {H : Hp} : Frm [] (woS S H) H := ⟨fun _ _ _ h => (woS_back h).2, fun _ _ h => (woS_back h).2⟩
theorem woS_mono {T S : List Addr} {H H' : Hp} (f : Frm T H H') (h : ∀ x, x ∈ T → x ∈ S) : Frm [] (woS S H) (woS S H') :=
  ⟨fun a o _ e => by
    obtain ⟨n, e⟩ := woS_back e
    rw [woS_ne n]
    exact f.keep a o (fun z => n (h a z)) e, fun a xs e => by
    obtain ⟨n, e⟩ := woS_back e
    rw [woS_ne n]
    exact f.tup a xs e⟩
theorem woS_upd {S : List Addr} {H : Hp} {r : Addr} {o : HO} (h : r ∈ S) : woS S (upd H r o) = woS S H := by
  funext a
  by_cases e : a ∈ S
  · rw [woS_in e, woS_in e]
  · rw [woS_ne e, woS_ne e, upd_ne (fun z => e (by rw [z]; exact h))]
theorem woS_old {T S : List Addr} {H H' : Hp} (f : Frm T H H') (h : ∀ x, x ∈ S → H x = none) : Frm T H (woS S H') :=
  ⟨fun a o ha e => by
    rw [woS_ne (fun z => by rw [h a z] at e; cases e)]; exact f.keep a o ha e, fun a xs e => by
    rw [woS_ne (fun z => by rw [h a z] at e; cases e)]; exact f.tup a xs e⟩
theorem woS_at {S : List Addr} {Hk Hn : Hp} {p : Addr} {u : HO} (hn : ∀ x, x ∈ S → ∃ o, Hk x = some o) (h : Hk p = none) (hp : Hn p = some u) : woS S Hn p = some u := by
  rw [woS_ne (fun z => by obtain ⟨o, e⟩ := hn p z; rw [h] at e; cases e)]
  exact hp

/-- {k: v} with a tuple as its key -/
def tDisp1 (tk tv : TE) : TE := fun σ H Q => ∀ p, H p = none → tk σ (upd H p (.dT [])) fun x H1 => tv σ H1 fun y H2 => H2 p = some (.dT []) ∧ ∃ b, ∃ ks : List Key, x = .ref b ∧ H2 b = some (.tup (ks.map kV)) ∧ Q (.ref p) (upd H2 p (.dT [(ks, y)]))
theorem pe_disp1 {X : Cx} {pos : Pos} {k v : Expr} {tk tv : TE} (hu : X.A.units < cLine) (hk : PE X k tk) (hv : PE X v tv) : PE X (.Dict [some k] [v] pos) (tDisp1 tk tv) := by
  refine ⟨fun pins s σ H Q I q => ?_⟩
  have hn := I.hok.fresh (Nat.le_refl s.heap.objs.size)
  have I1 := I.laid (a := s.heap.objs.size) (o := .dT []) (h' := s.heap.push { cls := .type "dict", data := .dict #[] }) (t' := s.toks) (fun _ _ q => Heap.get?_push_of_some _ q) (Nat.le_refl _) (dt_empty s.heap I.big)
  rw [arm_eval_Dict, zip_pairTrees [some k] [v] X.env pos rfl rfl, dictDisplay_pairs (pairTrees [some k] [v] X.env pos) (by simp [pairTrees]) (by simp [pairTrees])]
  refine wpAny_bind (wpAny_standAt (wpAny_bind (wpAny_subDictH (knd := tupleKind (mixKind X.prog X.w)) (Q := fun d s' => wpAny (model X.prog X.w) X.A (pure (Value.ref d)) _ X.xe s') hu (by simp [pairTrees])
    (pairTrees_cons_walk (thn (hk.run pins _ σ _ _ I1 (q _ hn)) fun u s1 ⟨x, H1, I1, rx, q1⟩ => thn (hv.run pins s1 σ H1 _ I1 q1) fun w2 s2 ⟨y, H2, I2, ry, e, b, ks, ex, eb, q2⟩ => ?_)))))
  subst ex
  obtain rfl : u = Value.ref b := rx
  obtain ⟨z, hd, xs, rel, dd⟩ := dt_of I2.hok e
  obtain rfl : xs = [] := by cases rel; rfl
  refine pairTrees_nil_walk ⟨[(ks, b, w2)], ⟨rfl, rfl, key_of I2.hok eb, trivial⟩, dd, fun h' tk dd' hs => wpAny_pure ⟨.ref s.heap.objs.size, _, ?_, rfl, q2⟩⟩
  obtain ⟨o, es, ep, hq, h2, h3, h4, _, h5⟩ := dd'
  have hne : b ≠ s.heap.objs.size := ne_of eb e fun z => nomatch z
  refine d_write I2 (by rw [e]; exact True.intro) hs ⟨o, hq⟩ ⟨?_, hd, [(ks, b, w2)], .cons ⟨rfl, by rw [upd_ne hne]; exact eb, ry⟩ .nil, o, es, ep, hq, h2, h3, ?_, ?_⟩
  · show 1 ≤ sizeLine
    rw [sizeLine_eq]; omega
  · exact h4
  · exact h5

/-! few numbers below a line -/
theorem nodup_lt : ∀ (n : Nat) (l : List Nat), l.Nodup → (∀ x ∈ l, x < n) → l.length ≤ n
  | 0, l, _, h => by
    cases l with
    | nil => exact Nat.le_refl _
    | cons a r => exact absurd (h a List.mem_cons_self) (Nat.not_lt_zero _)
  | n + 1, l, nd, h => by
    by_cases c : n ∈ l
    · have h1 := nodup_lt n (l.erase n) (nd.erase n) (fun x hx => by
        have h2 := h x (List.mem_of_mem_erase hx)
        have h3 : x ≠ n := fun e => by
          rw [e] at hx
          exact (List.Nodup.not_mem_erase nd) hx
        omega)
      rw [List.length_erase_of_mem c] at h1
      omega
    · have h1 := nodup_lt n l nd (fun x hx => by
        have h2 := h x hx
        have h3 : x ≠ n := fun e => c (e ▸ hx)
        omega)
      omega
theorem nodup_pairs {n : Nat} {q : List (Nat × Nat)} (nd : q.Nodup) (h : ∀ g ∈ q, g.1 ≤ n ∧ g.2 ≤ n) : q.length ≤ (n + 1) * (n + 1) := by
  have key : ∀ a b : Nat × Nat, a.1 ≤ n ∧ a.2 ≤ n → b.1 ≤ n ∧ b.2 ≤ n → a.1 * (n + 1) + a.2 = b.1 * (n + 1) + b.2 → a = b := fun a b ha hb e => by
    have h1 : (a.1 * (n + 1) + a.2) / (n + 1) = a.1 := by
      rw [Nat.mul_comm, Nat.mul_add_div (by omega), Nat.div_eq_of_lt (by omega)]; omega
    have h2 : (b.1 * (n + 1) + b.2) / (n + 1) = b.1 := by
      rw [Nat.mul_comm, Nat.mul_add_div (by omega), Nat.div_eq_of_lt (by omega)]; omega
    have h3 : a.1 = b.1 := by rw [← h1, ← h2, e]
    have h4 : a.2 = b.2 := by rw [h3] at e; omega
    exact Prod.ext h3 h4
  have := nodup_lt ((n + 1) * (n + 1)) (q.map fun g => g.1 * (n + 1) + g.2) (by
    unfold List.Nodup at nd ⊢
    rw [List.pairwise_map]
    refine List.Pairwise.imp_of_mem (fun {a b} ha hb hne e => hne (key a b (h a ha) (h b hb) e)) nd) (fun x hx => by
    obtain ⟨g, hg, rfl⟩ := List.mem_map.mp hx
    obtain ⟨h1, h2⟩ := h g hg
    have h3 : g.1 * (n + 1) ≤ n * (n + 1) := Nat.mul_le_mul_right _ h1
    rw [Nat.succ_mul]
    omega)
  rwa [List.length_map] at this

/-! the search -/
structure BInv (R : List Row) (z : Str) (q : List (Nat × Nat)) (k : Nat) : Prop where
  nil0 : q[0]? = some (0, 0)
  nd : q.Nodup
  re : ∀ g ∈ q, PReach R z g.1 g.2
  le : ∀ g ∈ q, g.1 ≤ R.length ∧ g.2 ≤ R.length
  cl : ∀ i g, i < k → q[i]? = some g → (must R z g.1 = true → must R z g.2 = true → agr R z g.1 g.2 = true) ∧ ∀ s ∈ steps R z g.1 g.2, s ∈ q
theorem aft_le {R : List Row} (g : GoodR R) {i : Nat} {r : Row} (h : R[i]? = some r) {a : Str} (ha : a ∈ ansL r.1) : aft r a ≤ R.length :=
  g.le r (List.mem_of_getElem? h) _ (aft_mem (g.ok r (List.mem_of_getElem? h)) ha)
theorem steps_le {R : List Row} (G : GoodR R) {z : Str} {i j : Nat} (hi : i ≤ R.length) (hj : j ≤ R.length) : ∀ s ∈ steps R z i j, s.1 ≤ R.length ∧ s.2 ≤ R.length := by
  intro s hs
  unfold steps at hs
  split at hs
  · cases e : R[i]? with
    | none => rw [e] at hs; cases hs
    | some r =>
      rw [e] at hs
      obtain ⟨a, ha, rfl⟩ := List.mem_map.mp hs
      exact ⟨aft_le G e ha, hj⟩
  · split at hs
    · cases e : R[j]? with
      | none => rw [e] at hs; cases hs
      | some r =>
        rw [e] at hs
        obtain ⟨a, ha, rfl⟩ := List.mem_map.mp hs
        exact ⟨hi, aft_le G e ha⟩
    · cases e : R[i]? with
      | none => rw [e] at hs; cases hs
      | some r =>
        cases e2 : R[j]? with
        | none => rw [e, e2] at hs; cases hs
        | some t =>
          rw [e, e2] at hs
          obtain ⟨a, ha, hs⟩ := List.mem_flatMap.mp hs
          obtain ⟨b, hb, rfl⟩ := List.mem_map.mp hs
          exact ⟨aft_le G e ha, aft_le G e2 (List.mem_filter.mp hb).1⟩
theorem BInv.start (R : List Row) (z : Str) : BInv R z [(0, 0)] 0 :=
  ⟨rfl, by simp, fun g hg => by rw [List.mem_singleton.mp hg]; exact .start, fun g hg => by rw [List.mem_singleton.mp hg]; exact ⟨Nat.zero_le _, Nat.zero_le _⟩, fun i g h => absurd h (Nat.not_lt_zero _)⟩
theorem BInv.few {R : List Row} {z : Str} {q : List (Nat × Nat)} {k : Nat} (b : BInv R z q k) (G : GoodR R) : q.length ≤ 22801 := by
  have h := nodup_pairs b.nd b.le
  have h2 := G.few
  have : (R.length + 1) * (R.length + 1) ≤ 151 * 151 := Nat.mul_le_mul (by omega) (by omega)
  omega
theorem BInv.add {R : List Row} {z : Str} {q : List (Nat × Nat)} {k : Nat} (b : BInv R z q k) (G : GoodR R) {g s : Nat × Nat} (hg : g ∈ q) (hs : s ∈ steps R z g.1 g.2) (hn : s ∉ q) (hk : k ≤ q.length) : BInv R z (q ++ [s]) k := by
  refine ⟨?_, ?_, ?_, ?_, ?_⟩
  · rw [List.getElem?_append_left (by have := b.nil0; exact (List.getElem?_eq_some_iff.mp this).1)]; exact b.nil0
  · rw [List.nodup_append]
    refine ⟨b.nd, by simp, fun a ha c hc => ?_⟩
    rw [List.mem_singleton.mp hc]
    exact fun e => hn (e ▸ ha)
  · intro x hx
    rcases List.mem_append.mp hx with hx | hx
    · exact b.re x hx
    · rw [List.mem_singleton.mp hx]
      exact .go (b.re g hg) hs
  · intro x hx
    rcases List.mem_append.mp hx with hx | hx
    · exact b.le x hx
    · rw [List.mem_singleton.mp hx]
      exact steps_le G (b.le g hg).1 (b.le g hg).2 s hs
  · intro i x hi hx
    rw [List.getElem?_append_left (by omega)] at hx
    obtain ⟨h1, h2⟩ := b.cl i x hi hx
    exact ⟨h1, fun s hs => List.mem_append_left _ (h2 s hs)⟩
theorem BInv.next {R : List Row} {z : Str} {q : List (Nat × Nat)} {k : Nat} (b : BInv R z q k) {g : Nat × Nat} (hg : q[k]? = some g) (ha : must R z g.1 = true → must R z g.2 = true → agr R z g.1 g.2 = true) (hs : ∀ s ∈ steps R z g.1 g.2, s ∈ q) : BInv R z q (k + 1) := by
  refine ⟨b.nil0, b.nd, b.re, b.le, fun i x hi hx => ?_⟩
  by_cases e : i = k
  · subst e
    rw [hg] at hx
    cases hx
    exact ⟨ha, hs⟩
  · exact b.cl i x (by omega) hx
theorem BInv.clear {R : List Row} {z : Str} {q : List (Nat × Nat)} (b : BInv R z q q.length) : ¬ Bad R z := by
  have key : ∀ x y, PReach R z x y → (x, y) ∈ q := by
    intro x y h
    induction h with
    | start => exact List.mem_of_getElem? b.nil0
    | @go x y g _ hs ih =>
      obtain ⟨i, hi, e⟩ := List.mem_iff_getElem.mp ih
      exact (b.cl i (x, y) hi (by rw [List.getElem?_eq_getElem hi, e])).2 g hs
  rintro ⟨x, y, h, m1, m2, ha⟩
  obtain ⟨i, hi, e⟩ := List.mem_iff_getElem.mp (key x y h)
  have := (b.cl i (x, y) hi (by rw [List.getElem?_eq_getElem hi, e])).1 m1 m2
  rw [this] at ha
  cases ha

/-! .. in the heap -/
def kk (g : Nat × Nat) : List Key := [Sum.inl (g.1 : Int), Sum.inl (g.2 : Int)]
theorem kk_inj {g h : Nat × Nat} (e : kk g = kk h) : g = h := by
  unfold kk at e
  simp only [List.cons.injEq, Sum.inl.injEq, and_true] at e
  exact Prod.ext (by omega) (by omega)
def PairAt (H : Hp) (v : V) (g : Nat × Nat) : Prop := ∃ p, v = .ref p ∧ H p = some (.tup [.int (g.1 : Nat), .int (g.2 : Nat)])
theorem PairAt.frm {S : List Addr} {H H' : Hp} {v : V} {g : Nat × Nat} (f : Frm S H H') (h : PairAt H v g) : PairAt H' v g := by
  obtain ⟨p, e, h⟩ := h
  exact ⟨p, e, f.tupS h⟩
def Back (H : Hp) (q : List (Nat × Nat)) (i : Nat) (v : V) : Prop := (i = 0 ∧ v = .non) ∨ ∃ j h, j < i ∧ q[j]? = some h ∧ ∃ t p l1 l2 a1 a2, v = .ref t ∧ H t = some (.tup [p, .ref l1, .ref l2]) ∧ PairAt H p h ∧ H l1 = some (.lst a1) ∧ a1.length ≤ 1 ∧ H l2 = some (.lst a2) ∧ a2.length ≤ 1
theorem Back.frm {H H' : Hp} {q : List (Nat × Nat)} {i : Nat} {v : V} (f : Frm [] H H') (h : Back H q i v) : Back H' q i v := by
  rcases h with h | ⟨j, g, h1, h2, t, p, l1, l2, a1, a2, h3, h4, h5, h6, h7, h8, h9⟩
  · exact .inl h
  · exact .inr ⟨j, g, h1, h2, t, p, l1, l2, a1, a2, h3, f.get0 h4, h5.frm f, f.get0 h6, h7, f.get0 h8, h9⟩
theorem Back.app {H : Hp} {q r : List (Nat × Nat)} {i : Nat} {v : V} (h : Back H q i v) : Back H (q ++ r) i v := by
  rcases h with h | ⟨j, g, h1, h2, h3⟩
  · exact .inl h
  · exact .inr ⟨j, g, h1, by rw [List.getElem?_append_left ((List.getElem?_eq_some_iff.mp h2).1)]; exact h2, h3⟩
/-- the dict of the pairs that were met -/
structure Came (H Hw : Hp) (c : Addr) (q : List (Nat × Nat)) : Prop where
  d : ∃ kvs : List (List Key × V), H c = some (.dT kvs) ∧ kvs.length ≤ q.length ∧ (∀ g, (valV kvs (kk g)).isSome = true ↔ g ∈ q) ∧ ∀ i g, q[i]? = some g → ∃ v, valV kvs (kk g) = some v ∧ Back Hw q i v
theorem Came.frm {H H' Hw Hw' : Hp} {c : Addr} {q : List (Nat × Nat)} (f : Frm [] H H') (fw : Frm [] Hw Hw') (h : Came H Hw c q) : Came H' Hw' c q := by
  obtain ⟨kvs, h1, h2, h3, h4⟩ := h.d
  exact ⟨kvs, f.get0 h1, h2, h3, fun i g e => by
    obtain ⟨v, e1, b⟩ := h4 i g e
    exact ⟨v, e1, b.frm fw⟩⟩
theorem Came.add {H Hw : Hp} {c : Addr} {q : List (Nat × Nat)} (h : Came H Hw c q) {kvs : List (List Key × V)} (e : H c = some (.dT kvs)) {g : Nat × Nat} (hn : g ∉ q) {v : V} {Hn : Hp} (b : Back Hw (q ++ [g]) q.length v) : Came (upd Hn c (.dT (putK kvs (kk g) v))) Hw c (q ++ [g]) := by
  obtain ⟨kvs', h1, h2, h3, h4⟩ := h.d
  cases h1.symm.trans e
  have hv : valV kvs (kk g) = none := by
    cases z : valV kvs (kk g) with
    | none => rfl
    | some v => exact absurd ((h3 g).mp (by rw [z]; rfl)) hn
  refine ⟨_, upd_same, ?_, fun x => ?_, fun i x hx => ?_⟩
  · have := length_putK kvs (kk g) v
    rw [List.length_append, List.length_singleton]; omega
  · rw [valV_put]
    by_cases c : kk x = kk g
    · rw [if_pos c, kk_inj c]; simp
    · rw [if_neg c, h3 x, List.mem_append, List.mem_singleton]
      exact ⟨.inl, fun z => z.elim id fun z => absurd (congrArg kk z) c⟩
  · rw [valV_put]
    by_cases l : i < q.length
    · rw [List.getElem?_append_left l] at hx
      have : ¬ kk x = kk g := fun z => hn (kk_inj z ▸ List.mem_of_getElem? hx)
      rw [if_neg this]
      obtain ⟨v, e1, b1⟩ := h4 i x hx
      exact ⟨v, e1, b1.app⟩
    · have hlt := (List.getElem?_eq_some_iff.mp hx).1
      rw [List.length_append, List.length_singleton] at hlt
      obtain rfl : i = q.length := by omega
      rw [List.getElem?_append_right (Nat.le_refl _), Nat.sub_self] at hx
      obtain rfl : g = x := by simpa using hx
      rw [if_pos rfl]
      exact ⟨v, rfl, b⟩
end K34

namespace K34
open PySem PySem.Spec PyProof.Rows L2
section
variable {K : PySem.W.Frag} {σ : L2.St} {H : Hp} {Q : VK} {c : TT} {tb : TS} {D : Ends} {a : Addr}
theorem g_while (W : Nat → L2.St → Hp → Prop) (m0 : Nat) (h0 : W m0 σ H) (hs : ∀ m σ H, W m σ H → c σ H fun b H1 => if b = true then ∃ N : L2.St → Hp → Prop, (∀ σ' H', N σ' H' → ∃ m', m' < m ∧ W m' σ' H') ∧ tb { D with nx := N, ct := N, bk := D.nx } σ H1 else D.nx σ H1) : tWhile c tb D σ H := ⟨W, ⟨m0, h0⟩, hs⟩
theorem g_turn {W : Nat → L2.St → Hp → Prop} {m : Nat} (h : tb { D with nx := fun σ' H' => ∃ m', m' < m ∧ W m' σ' H', ct := fun σ' H' => ∃ m', m' < m ∧ W m' σ' H', bk := D.nx } σ H) :
    ∃ N : L2.St → Hp → Prop, (∀ σ' H', N σ' H' → ∃ m', m' < m ∧ W m' σ' H') ∧ tb { D with nx := N, ct := N, bk := D.nx } σ H := ⟨_, fun _ _ h => h, h⟩
theorem g_seqM {t u : TS} (M : L2.St → Hp → Prop) (h2 : ∀ σ H, M σ H → u D σ H) (h1 : ∀ N : L2.St → Hp → Prop, (∀ σ H, M σ H → N σ H) → t { D with nx := N } σ H) : tSeq t u D σ H := h1 (u D) h2
theorem g_notNr (q : Q (.bl true) H) : rNotN (.ref a) .non H Q := ⟨rfl, q⟩
theorem g_notN0 (q : Q (.bl false) H) : rNotN .non .non H Q := ⟨rfl, q⟩
theorem g_isNr (q : Q (.bl false) H) : rIsN (.ref a) .non H Q := ⟨rfl, q⟩
theorem g_isN0 (q : Q (.bl true) H) : rIsN .non .non H Q := ⟨rfl, q⟩
theorem g_disp1 {tk tv : TE} (q : ∀ p, H p = none → tk σ (upd H p (.dT [])) fun x H1 => tv σ H1 fun y H2 => H2 p = some (.dT []) ∧ ∃ b, ∃ ks : List Key, x = .ref b ∧ H2 b = some (.tup (ks.map kV)) ∧ Q (.ref p) (upd H2 p (.dT [(ks, y)]))) : tDisp1 tk tv σ H Q := q
theorem hu0 {k : Nat} {A : Around} (hr : Room k A) : A.units < cLine := by have := hr.un; omega
theorem take_snoc {α : Type} {l : List α} {i : Nat} {x : α} (h : l[i]? = some x) : l.take (i + 1) = l.take i ++ [x] := by
  rw [List.take_add_one, h]; rfl
theorem getMapStr {l : List Str} {i : Nat} {x : V} (h : (l.map V.str)[i]? = some x) : ∃ a, l[i]? = some a ∧ x = .str a := by
  rw [List.getElem?_map] at h
  cases e : l[i]? with
  | none => rw [e] at h; cases h
  | some a => rw [e] at h; exact ⟨a, rfl, (Option.some.inj h).symm⟩
theorem Paired.get {α β : Type} {P : α → β → Prop} {l : List α} {m : List β} (h : Paired P l m) : ∀ {i : Nat} {y : β}, m[i]? = some y → ∃ x, l[i]? = some x ∧ P x y := by
  induction h with
  | nil => intro i y e; simp at e
  | @cons a b as bs h t ih =>
    intro i y e
    cases i with
    | zero =>
      simp only [List.getElem?_cons_zero, Option.some.injEq] at e
      subst e
      exact ⟨a, rfl, h⟩
    | succ i =>
      rw [List.getElem?_cons_succ] at e
      rw [List.getElem?_cons_succ]
      exact ih e
theorem Paired.getL {α β : Type} {P : α → β → Prop} {l : List α} {m : List β} (h : Paired P l m) : ∀ {i : Nat} {x : α}, l[i]? = some x → ∃ y, m[i]? = some y ∧ P x y := by
  induction h with
  | nil => intro i y e; simp at e
  | @cons a b as bs h t ih =>
    intro i y e
    cases i with
    | zero =>
      simp only [List.getElem?_cons_zero, Option.some.injEq] at e
      subst e
      exact ⟨b, rfl, h⟩
    | succ i =>
      rw [List.getElem?_cons_succ] at e
      rw [List.getElem?_cons_succ]
      exact ih e
end
end K34

/-! The number of names in a set (the library's proof for no name or one, turned to many different ones). -/
namespace K34
open PySem PySem.Spec PyProof.Rows L2 SS

section
variable {prog : Program} {w : World} {A : Around} {R : Result → Shared → Prop} {I : Addr} {fp wr : List Addr} {G : Array GenState → Array GenState → Prop} {n : Nat} {P : Nat → Value → Prop} {St : Nat → Shared → Prop}
theorem loopN (W : WalksS prog w A.in1 I fp wr G n P St) (S : Addr) (hSf : S ∉ fp) (xs : List Str) (hsz : xs.length = n) (hn1 : n ≤ 64) (nd : xs.Nodup)
    (hval : ∀ i v, P i v → ∃ t, v = .str (xs.getD i Str.empty) t) :
    ∀ (k i : Nat) (s : Shared), n - i = k → i ≤ n → St i s →
      s.heap.SetOf (PySem.strKind prog w) S (fun k' => (xs.take i).any (· == k')) i →
      (∀ s', Moved (S :: wr) G s s' → s'.heap.SetOf (PySem.strKind prog w) S (fun k' => (xs.take n).any (· == k')) n → R (.ok (.ret .none)) s') →
      codeAny (model prog w) A (.builtin "set.update.loop" ⟨[.ref S, .ref I], []⟩) R s := by
  have hSw : S ∉ wr := fun h => hSf (W.sub _ h)
  have hsub : ∀ b ∈ wr, b ∈ S :: wr := fun b hb => List.mem_cons_of_mem _ hb
  intro k
  induction k with
  | zero =>
    intro i s hk hi hst hS hR
    have hin : i = n := by omega
    subst hin
    refine codeAny_builtin PyProof.Rows.F.entry_set_update_loop ?_
    rw [Around.under_plainId PyProof.Rows.F.plain_set_update_loop _]
    show wpAny _ A.in1 (pyNext (.ref I) >>= _) _ _ s
    refine wpAny_bind (W.done s _ _ hst fun s' hm => ?_)
    show wpAny _ A.in1 (ret Value.none) _ _ s'
    exact wpAny_pure (hR s' (hm.mono hsub) (by
      obtain ⟨o, es, ep, t, ho, rest⟩ := hS
      exact ⟨o, es, ep, t, hm.heap S _ hSw ho, rest⟩))
  | succ k ih =>
    intro i s hk hi hst hS hR
    have hlt : i < n := by omega
    have hx : xs[i]? = some (xs.getD i Str.empty) := by rw [List.getD_eq_getElem?_getD, List.getElem?_eq_getElem (by omega)]; rfl
    refine codeAny_builtin PyProof.Rows.F.entry_set_update_loop ?_
    rw [Around.under_plainId PyProof.Rows.F.plain_set_update_loop _]
    show wpAny _ A.in1 (pyNext (.ref I) >>= _) _ _ s
    refine wpAny_bind (W.item i s _ _ hlt hst fun v s' hP hst' hm => ?_)
    obtain ⟨t, rfl⟩ := hval i v hP
    have hS' : s'.heap.SetOf (PySem.strKind prog w) S (fun k' => (xs.take i).any (· == k')) i := by
      obtain ⟨o, es, ep, tb, ho, rest⟩ := hS
      exact ⟨o, es, ep, tb, hm.heap S _ hSw ho, rest⟩
    show wpAny _ A.in1 (holding [Value.str (xs.getD i Str.empty) t] (setAdd S (.str (xs.getD i Str.empty) t)) >>= _) _ _ s'
    refine wpAny_bind (wpAny_holding ?_)
    unfold setAdd
    refine wpAny_holding ?_
    refine wpAny_bind ((PySem.strKind prog w).pyHash (k := xs.getD i Str.empty) (strKind_is _ _ _ _) ?_)
    refine wpAny_setAddHashed_of (knd := PySem.strKind prog w) (s := { s' with toks := s'.toks + 1 }) (strKind_is _ _ _ _) rfl hS' (by unfold scanBound; omega) fun h' hsb hS2 => ?_
    have hSi : h'.SetOf (PySem.strKind prog w) S (fun k' => (xs.take (i + 1)).any (· == k')) (i + 1) := by
      have no : (xs.take i).any (· == xs.getD i Str.empty) = false := by
        rw [List.any_eq_false]
        intro y hy e
        have e := eq_of_beq e
        obtain ⟨j, hj, ej⟩ := List.mem_take_iff_getElem.mp hy
        have h1 : xs[j]'(by omega) = xs[i]'(by omega) := by
          rw [ej, e]
          exact (List.getElem?_eq_some_iff.mp hx).2.symm
        exact List.pairwise_iff_getElem.mp nd j i (by omega) (by omega) (by omega) h1
      refine SetOf_congr hS2 (fun k' => ?_) (by rw [no]; rfl)
      rw [List.take_add_one, hx, Option.toList_some, List.any_append, List.any_cons, List.any_nil, Bool.or_false]
      show (_ || decide (k' = xs.getD i Str.empty)) = (_ || (xs.getD i Str.empty == k'))
      generalize xs.getD i Str.empty = x
      by_cases e : k' = x
      · subst e; simp
      · have hb : (x == k') = false := by simpa [beq_iff_eq] using (fun h' : x = k' => e h'.symm)
        simp [hb, e]
    refine wpAny_pure ⟨plainId_quiet PyProof.Rows.F.plain_set_update_loop _, ih (i + 1) _ (by omega) hlt (W.frame _ s' _ _ hst' (Nat.le_succ _) fun b hb o e => ?_) hSi fun s'' hm'' hS'' => ?_⟩
    · rw [hsb.2 b (fun h : b = S => hSf (by rw [← h]; exact hb))]; exact e
    · refine hR s'' (Moved.trans W.gtrans ((hm.mono hsub).then_heap (Nat.le_succ _) fun b o hb e => ?_) hm'') hS''
      rw [hsb.2 b (fun h : b = S => hb (by rw [h]; exact List.mem_cons_self))]; exact e
end

section
variable {prog : Program} {w : World} {A : Around} {E : Value → Shared → Prop} {s : Shared}
set_option maxHeartbeats 3200000 in
theorem call_set_tupN {l : Addr} {items : Array Value} {xs : List Str} {Q : Value → Shared → Prop}
    (hh : A.handled = none) (hl : s.heap.IsTuple l items) (hi : PyProof.Rows.StrsAre items.toList xs) (hn1 : xs.length ≤ 64) (nd : xs.Nodup)
    (h : ∀ (h' : Heap) (tk : Nat), h'.SetOf (PySem.strKind prog w) s.heap.objs.size (fun k' => (xs.take items.size).any (· == k')) items.size →
      (∀ b o, b < s.heap.objs.size → s.heap.get? b = some o → h'.get? b = some o) → Q (.ref s.heap.objs.size) { s with heap := h', toks := tk }) :
    wpAny (model prog w) A (call (.type "set") [.ref l]) Q E s := by
  obtain ⟨c, tl, hmro⟩ := PySem.F.called_set.mro
  have hmade := PySem.F.called_set.made
  have hsub := PySem.F.called_set.sub
  refine wpAny_call (codeAny_of_tree ?_)
  show wpAny _ _ (callAny (.type "set") _) _ _ _
  refine wpAny_pure ⟨Code.quiet_builtin _ (by decide +kernel), codeAny_builtin PySem.F.entry_type_call ?_⟩
  rw [Around.under_plain (weight_type_call_type "set" [.ref l] []) rfl]
  have h1 := PySem.F.called_set.notType
  have h2 := PySem.F.called_set.canCreate
  have hct := PySem.F.typeCall_set_1 (.ref l)
  repeat (any_goals (first | assumption | wp_step))

  refine codeAny_mono (code_set_new_1 (.ref l) (E := E) (Q₁ := fun obj s₁ => ∃ led : Bool, obj = .ref s.heap.objs.size ∧ s₁ = { s with heap := s.heap.push { cls := .type "set", dict := none, data := .set #[] 0 (.fresh 0 0 led) } }) fun led => ⟨led, rfl, rfl⟩) fun r s₁ hr => ?_
  cases r with
  | error e => exact hr
  | ok fl =>
    cases fl with
    | ret obj =>
      obtain ⟨led, rfl, rfl⟩ := hr
      have hS : (s.heap.push { cls := .type "set", dict := none, data := .set #[] 0 (.fresh 0 0 led) }).get? s.heap.objs.size = some { cls := .type "set", dict := none, data := .set #[] 0 (.fresh 0 0 led) } := Heap.get?_push_size _ rfl
      have hT : Shared.TypeIs { s with heap := s.heap.push { cls := .type "set", dict := none, data := .set #[] 0 (.fresh 0 0 led) } } (.ref s.heap.objs.size) "set" := ⟨_, hS, rfl⟩
      have hli := PySem.F.called_set.init.lookup
      have hbi := PySem.F.called_set.init.bind (.ref s.heap.objs.size)
      repeat (any_goals (first | assumption | wp_step))

      refine codeAny_mono (codeAny_call_builtin (R := wants (fun r s₂ => r = .none ∧ ∃ h' tk, s₂ = { s with heap := h', toks := tk } ∧
          h'.SetOf (PySem.strKind prog w) s.heap.objs.size (fun k' => (xs.take items.size).any (· == k')) items.size ∧
          (∀ b o, b < s.heap.objs.size → s.heap.get? b = some o → h'.get? b = some o)) E) PySem.F.called_set.init.plain PySem.F.entry_set_init (check_set_init_1 hT ?_)) fun r₂ s₂ hr₂ => ?_
      · obtain ⟨ol, hol, hcl, nl, hdl⟩ := hl
        obtain ⟨ocls, odict, odata, oslots⟩ := ol
        simp only at hcl hdl
        subst hcl; subst hdl
        have hol' : (s.heap.push { cls := .type "set", dict := none, data := .set #[] 0 (.fresh 0 0 led) }).get? l = some { cls := .type "tuple", dict := odict, data := .seq items nl, slots := oslots } := Heap.get?_push_of_some _ hol
        have hsls := PySem.F.sub_tuple_set
        have hslf := PySem.F.sub_tuple_frozenset
        have hne : (Value.type "tuple" == Value.type "dict") = false := by decide
        have hl1 : (s.heap.push { cls := .type "set", dict := none, data := .set #[] 0 (.fresh 0 0 led) }).IsTuple l items := ⟨_, hol', rfl, nl, rfl⟩
        unfold Builtin.«set.__init__» noKeywords Builtin.Frozenset.updateFrom
        generalize hPI : pyIter = PI
        wp_walk
        subst hPI

        refine wpAny_pyIter_tuple hl1 ?_
        refine wpAny_bind (wpAny_runValue ?_)
        have hlS : l < s.heap.objs.size := Heap.lt_size hol
        have hh3 : A.in1.in1.in1.handled = none := by simp [hh]
        have hneI : l ≠ (s.heap.push { cls := .type "set", dict := none, data := .set #[] 0 (.fresh 0 0 led) }).objs.size := by
          rw [Heap.size_push]; exact Nat.ne_of_lt (Nat.lt_succ_of_lt hlS)
        have hSf : s.heap.objs.size ∉ [(s.heap.push { cls := .type "set", dict := none, data := .set #[] 0 (.fresh 0 0 led) }).objs.size, l] := by
          rw [Heap.size_push]; simp only [List.mem_cons, List.mem_singleton, List.not_mem_nil, or_false, not_or]
          exact ⟨Nat.ne_of_lt (Nat.lt_succ_self _), Nat.ne_of_gt hlS⟩
        have hsz : xs.length = items.size := by rw [← StrsAre.len_eq hi, Array.length_toList]
        have hval : ∀ (i : Nat) (v : Value), items[i]? = some v → ∃ t, v = .str (xs.getD i Str.empty) t := fun i v hv => strs_at hi i v (by rw [Array.getElem?_toList]; exact hv)
        refine loopN ((Walks.tuple hh3 _ l hneI items).toS) s.heap.objs.size
          hSf xs hsz (by rw [← hsz]; exact hn1) nd hval (items.size - 0) 0 _ (by omega) (Nat.zero_le _)
          ⟨⟨_, Heap.get?_push_size _ rfl, rfl, rfl⟩, (hl1.push _)⟩ ?hS0 ?hR
        case hS0 =>
          have hget : ((s.heap.push { cls := .type "set", dict := none, data := .set #[] 0 (.fresh 0 0 led) }).push { cls := .type "tuple_iterator", data := .fields #[.ref l, .int 0 0] }).get? s.heap.objs.size
              = some { cls := .type "set", dict := none, data := .set #[] 0 (.fresh 0 0 led) } := Heap.get?_push_of_some _ hS
          exact PyProof.Rows.SetOf_congr ((PyProof.Rows.setObjOf_fresh (knd := PySem.strKind prog w) led).setOf hget (by unfold scanBound; omega)) (fun _ => rfl) rfl
        case hR =>
          intro s' hm hS'
          obtain ⟨h', g', d', tk', os'⟩ := s'
          have eg : g' = s.gens := hm.gens
          have ed : d' = s.drawn := hm.drawn
          have eo : os' = s.os := hm.os
          subst eg; subst ed; subst eo
          show wpAny _ _ _ _ _ _
          refine wpAny_pure ?_
          show wpAny _ _ (ret Value.none) _ _ _
          refine wpAny_pure ⟨rfl, h', tk', rfl, hS', fun b o hb e => ?_⟩
          have hb1 : b ≠ s.heap.objs.size := Nat.ne_of_lt hb
          have hb2 : b ≠ (s.heap.push { cls := .type "set", dict := none, data := .set #[] 0 (.fresh 0 0 led) }).objs.size := by
            rw [Heap.size_push]; exact Nat.ne_of_lt (Nat.lt_succ_of_lt hb)
          exact hm.heap b o (by simp only [List.mem_cons, List.mem_singleton, List.not_mem_nil, or_false, not_or]; exact ⟨hb1, hb2⟩) (Heap.get?_push_of_some _ (Heap.get?_push_of_some _ e))

      · cases r₂ with
        | error e => exact hr₂
        | ok fl₂ =>
          cases fl₂ with
          | ret r =>
            obtain ⟨rfl, h', tk, rfl, hS', hk'⟩ := hr₂
            repeat (any_goals (first | assumption | wp_step))
            exact h _ _ hS' hk'
          | _ => exact hr₂.elim
    | _ => exact hr.elim

end

section
variable {X : Cx}
def tLenSetN (K : PySem.W.Frag) (ta : TE) : TE := fun σ H Q => ta σ H fun x H1 => ∃ l, ∃ xs : List Str, x = .ref l ∧ ((SqL K H1 l (xs.map V.str) ∧ xs.length ≤ 1) ∨ (SqT K H1 l (xs.map V.str) ∧ xs.Nodup ∧ xs.length ≤ 64)) ∧ Q (.int xs.length) H1
theorem pe_lenSetN {a : Expr} {ta : TE} {p p2 q pos : Pos} (hc : X.calm = true) (hg : Gl X "len") (hm : X.mg "len" = none) (hg2 : Gl X "set") (hm2 : X.mg "set" = none) (ha : PE X a ta)
    (na : starEach [a] X.env = (false, eval a X.env) :: starEach [] X.env := by rfl) : PE X (.Call (.Name "len" p) [.Call (.Name "set" p2) [a] [] q] [] pos) (tLenSetN X.K ta) := by
  refine ⟨fun pins s σ H Q I h => Call_ (ld_blt I hg hm boot_len (callWith_builtin1 (args_cons (Call_ (ld_blt I hg2 hm2 boot_set (callWith_type1 (args_cons (thn (ha.run pins s σ H _ I h) fun v s1 ⟨x, H1, I1, r1, q1⟩ => args_nil ?_) na) na rfl))) rfl) rfl rfl))⟩
  obtain ⟨l, xs, rfl, hq, q1⟩ := q1
  cases r1
  have fin : ∀ its : List Value, Vals (xs.map V.str) its → ∀ (h' : Heap) (tk : Nat), xs.length ≤ 64 → h'.SetOf (PySem.strKind X.prog X.w) s1.heap.objs.size (fun k' => (xs.take its.toArray.size).any (· == k')) its.toArray.size →
      (∀ b o, b < s1.heap.objs.size → s1.heap.get? b = some o → h'.get? b = some o) →
      wpAny (model X.prog X.w) X.A (spliced (backTo pos (starEach [] X.env))) (fun vs s₂ => wpAny (model X.prog X.w) X.A (call (.builtin "len") (Value.ref s1.heap.objs.size :: vs)) (EP X pins σ Q) X.xe s₂) X.xe { s1 with heap := h', toks := tk } := fun its r h' tk few hS hk => by
    have hl : its.toArray.size = xs.length := by rw [List.size_toArray, ← r.length, List.length_map]
    rw [hl] at hS
    obtain ⟨o, es, ep, t, ho, hex, hd, _, _, _, hf, hn⟩ := hS
    have I2 : Inv X pins σ H1 { s1 with heap := h', toks := tk } := I1.kept fun b o e => hk b o (Heap.lt_size e) e
    exact args_nil (call_len_set ho hex hd hf (by rw [hn] <;> omega) ⟨.int xs.length, H1, I2.tok _, ⟨_, by rw [hn]⟩, q1⟩)
  rcases hq with ⟨hq, h1⟩ | ⟨hq, nd, h1⟩
  · obtain ⟨its, r, pl, hz⟩ := I1.list hq
    exact call_set_listS (I1.ok.hd hc) pl.isList (by simpa using strsAre_of r) h1 fun h' tk hS hk => fin its r h' tk (by omega) hS hk
  · obtain ⟨its, r, pl, hz⟩ := I1.tuple hq
    exact call_set_tupN (I1.ok.hd hc) pl (by simpa using strsAre_of r) h1 nd fun h' tk hS hk => fin its r h' tk h1 hS hk
variable {K : PySem.W.Frag} {σ : L2.St} {H : Hp} {Q : VK} {ta : TE}
theorem g_lenSet (q : ta σ H fun x H1 => ∃ l, ∃ xs : List Str, x = .ref l ∧ ((SqL K H1 l (xs.map V.str) ∧ xs.length ≤ 1) ∨ (SqT K H1 l (xs.map V.str) ∧ xs.Nodup ∧ xs.length ≤ 64)) ∧ Q (.int xs.length) H1) : tLenSetN K ta σ H Q := q
end
end K34

/-! A list of one's own that is filled; comprehensions; what is never read; an error of one's own. -/
namespace K34
open PySem PySem.Spec PyProof.Rows L2

/-! readings of what is never reached -/
section
variable {X : Cx}
theorem pe_no {e : Expr} : PE X e (fun _ _ _ => False) := ⟨fun _ _ _ _ _ _ h => h.elim⟩
theorem pt_no {e : Expr} : PT X e (fun _ _ _ => False) := ⟨fun _ _ _ _ _ _ h => h.elim⟩
theorem ps_no {e : Stmt} : PS X e (fun _ _ _ => False) := ⟨fun _ _ _ _ _ _ h => h.elim⟩
theorem pss_no {e : List Stmt} : PSs X e (fun _ _ _ => False) := ⟨fun _ _ _ _ _ _ h => h.elim⟩
theorem pg_no {e : Expr} : PG X e (fun _ _ _ _ => False) := ⟨fun _ _ _ _ _ _ _ _ _ h => h.elim⟩
theorem pts_no {e : List Expr} : PTs X e (fun _ _ _ => False) := ⟨fun _ _ _ _ _ _ h => h.elim⟩
end

/-! a list of data that is filled -/
structure LI (S : List Addr) (H : Hp) (lo : Addr) (ds : List PyData) (H' : Hp) : Prop where
  fr : Frm S H H'
  at_ : ∃ vs, H' lo = some (.lst vs) ∧ DL H' vs ds
section
variable {S : List Addr} {H H' H2 : Hp} {lo : Addr} {ds es : List PyData} {vs ws : List V} {x : V} {d : PyData}
theorem LI.new {H1 : Hp} (f : Frm S H H1) (h : H1 lo = some (.lst [])) : LI S H lo [] H1 := ⟨f, [], h, .nil⟩
theorem LI.frm (h : LI S H lo ds H') (f : Frm [] H' H2) : LI S H lo ds H2 := by
  obtain ⟨vs, e, d⟩ := h.at_
  exact ⟨h.fr.trans f.any, vs, f.get0 e, d.frm f⟩
theorem LI.frmS (h : LI S H lo ds H') (hlo : lo ∉ S) (f : Frm S H' H2) : LI S H lo ds H2 := by
  obtain ⟨vs, e, d⟩ := h.at_
  exact ⟨h.fr.trans f, vs, f.keep _ _ hlo e, d.frm f⟩
theorem LI.app (h : LI S H lo ds H') (n : H lo = none) (e : H' lo = some (.lst vs)) (dx : D H' x d) : LI S H lo (ds ++ [d]) (upd H' lo (.lst (vs ++ [x]))) := by
  obtain ⟨us, e', dv⟩ := h.at_
  cases e'.symm.trans e
  exact ⟨h.fr.loc n, _, upd_same, (dv.app (.one dx)).mut e nt_lst⟩
theorem LI.ext (h : LI S H lo ds H') (n : H lo = none) (e : H' lo = some (.lst vs)) (dx : DL H' ws es) : LI S H lo (ds ++ es) (upd H' lo (.lst (vs ++ ws))) := by
  obtain ⟨us, e', dv⟩ := h.at_
  cases e'.symm.trans e
  exact ⟨h.fr.loc n, _, upd_same, (dv.app dx).mut e nt_lst⟩
theorem LI.len (h : LI S H lo ds H') (e : H' lo = some (.lst vs)) : vs.length = ds.length := by
  obtain ⟨us, e', dv⟩ := h.at_
  cases e'.symm.trans e
  exact dv.len
theorem LI.dl (h : LI S H lo ds H') (e : H' lo = some (.lst vs)) : DL H' vs ds := by
  obtain ⟨us, e', dv⟩ := h.at_
  cases e'.symm.trans e
  exact dv
end

/-! comprehensions -/
def KAcc (Dr : Addr) (N : Hp → Prop) : V → Hp → Prop := fun y H4 => ∃ acc, H4 Dr = some (.lst acc) ∧ acc.length < sizeLine ∧ N (upd H4 Dr (.lst (acc ++ [y])))
def KTst (te : TE) (Dr : Addr) (N : Hp → Prop) (σ2 : L2.St) : Bool → Hp → Prop := fun b H3 => if b = true then te σ2 H3 (KAcc Dr N) else N H3
def KTurn (vs : List Nat) (σw : L2.St) (tt : TT) (te : TE) (Dr : Addr) (N : Hp → Prop) : L2.St → Hp → Prop := fun σ2 H2 => wipe σ2 vs = σw ∧ tt σ2 H2 (KTst te Dr N σ2)
def KLc (g : TG) (tt : TT) (te : TE) (vs : List Nat) (σ : L2.St) (Q : VK) : It → Hp → Prop := fun J H1 => ∀ Dr, H1 Dr = none → ∃ W : Nat → Nat → Hp → Prop, (∃ m, W 0 m (upd H1 Dr (.lst []))) ∧ ∀ i m H, W i m H →
  (J.stop i H ∧ Q (.ref Dr) H) ∨ (J.go i H ∧ ∃ Nx : Hp → Prop, (∀ H', Nx H' → ∃ m', m' < m ∧ W (i + 1) m' H') ∧ ∀ x H', J.yld i H x H' → g x (wipe σ vs) H' (KTurn vs (wipe σ vs) tt te Dr Nx))
def KIT (K : PySem.W.Frag) (R : It → Hp → Prop) : V → Hp → Prop := fun x H1 => ∃ a, x = .ref a ∧ (∃ xs, SqT K H1 a xs) ∧ R (Itt K a) H1
def KIL (K : PySem.W.Frag) (R : It → Hp → Prop) : V → Hp → Prop := fun x H1 => ∃ a, x = .ref a ∧ (∃ xs, SqL K H1 a xs) ∧ R (Itl K a) H1
def KRng (R : It → Hp → Prop) : List V → Hp → Prop := fun vs H1 => ∃ j : Int, vs = [.int j] ∧ -(2 ^ 62) ≤ j ∧ j < 2 ^ 62 ∧ R (Itr 0 j.toNat) H1
def KKey (R : It → Hp → Prop) : V → Hp → Prop := fun x H1 => ∃ d o, x = .ref d ∧ ((∃ kvs, H1 d = some (.frz o (.dK kvs)) ∧ R (Itk d o kvs) H1) ∨ ∃ kvs, H1 d = some (.frz o (.dT kvs)) ∧ R (Itkt d o kvs) H1)
def KFz (Q : VK) : V → Hp → Prop := fun x H1 => ∃ d u, x = .ref d ∧ H1 d = some u ∧ Mut (some u) ∧ ∀ od, Q x (upd H1 d (.frz od u))
def KForJ (g : TG) (tb : TS) (D : Ends) (σ : L2.St) : It → Hp → Prop := fun J H1 => ∃ W : Nat → Nat → L2.St → Hp → Prop, (∃ m, W 0 m σ H1) ∧ ∀ i m σ H, W i m σ H →
  (J.stop i H ∧ D.nx σ H) ∨ (J.go i H ∧ ∃ N : L2.St → Hp → Prop, (∀ σ' H', N σ' H' → ∃ m', m' < m ∧ W (i + 1) m' σ' H') ∧ ∀ x H', J.yld i H x H' → g x σ H' fun σ2 H2 => tb { D with nx := N, ct := N, bk := D.nx } σ2 H2)
section
variable {K : PySem.W.Frag} {σ σ2 σw : L2.St} {H : Hp} {Q : VK} {g : TG} {tt : TT} {te tl : TE} {ta : TA} {vs : List Nat} {wi : TI} {R : It → Hp → Prop} {a Dr : Addr} {xs : List V} {N : Hp → Prop} {tb : TS} {D : Ends} {J : It}
theorem g_lc (q : wi σ H (KLc g tt te vs σ Q)) : tLc wi g tt te vs σ H Q := q
theorem g_forJ (q : wi σ H (KForJ g tb D σ)) : tFor wi g tb D σ H := q
theorem g_iT (q : tl σ H (KIT K R)) : iTup K tl σ H R := q
theorem g_iL (q : tl σ H (KIL K R)) : iList K tl σ H R := q
theorem g_iR (q : ta σ H (KRng R)) : iRng1 ta σ H R := q
theorem g_iKs (q : tl σ H (KKey R)) : iKeys tl σ H R := q
theorem g_fz (q : tl σ H (KFz Q)) : tFz tl σ H Q := q
theorem g_kT (h : H a = some (.tup xs)) (q : R (Itt K a) H) : KIT K R (.ref a) H := ⟨a, rfl, ⟨xs, SqT.of h⟩, q⟩
theorem g_kL (h : H a = some (.lst xs)) (q : R (Itl K a) H) : KIL K R (.ref a) H := ⟨a, rfl, ⟨xs, SqL.of h⟩, q⟩
theorem g_kR {n : Nat} (h : n ≤ 1000000) (q : R (Itr 0 n) H) : KRng R [.int (n : Nat)] H := by
  have : (1000000 : Int) < 2 ^ 62 := by decide
  exact ⟨n, rfl, by omega, by omega, q⟩
theorem g_kK {kvs : List (Key × V)} (h : H a = some (.dK kvs)) (q : ∀ od, R (Itk a od kvs) (upd H a (.frz od (.dK kvs)))) : KFz (KKey R) (.ref a) H := ⟨a, _, rfl, h, trivial, fun od => ⟨a, od, rfl, .inl ⟨kvs, upd_same, q od⟩⟩⟩
theorem KLc.mk {n : Nat} {G : Hp → Prop} {Y : Nat → Hp → V → Hp → Prop} (w : Walk J n G Y) (h : ∀ Dr, H Dr = none → ∃ Pv : Nat → Hp → Prop, Pv 0 (upd H Dr (.lst [])) ∧ (∀ i H, i ≤ n → Pv i H → G H) ∧
    (∀ i x H H', i < n → Pv i H → Y i H x H' → g x (wipe σ vs) H' (KTurn vs (wipe σ vs) tt te Dr (Pv (i + 1)))) ∧ ∀ H, Pv n H → Q (.ref Dr) H) : KLc g tt te vs σ Q J H := fun Dr hD => by
  obtain ⟨Pv, h0, hG, hs, hd⟩ := h Dr hD
  exact lc_it w Pv h0 hG hs hd
theorem KForJ.mk {n : Nat} {G : Hp → Prop} {Y : Nat → Hp → V → Hp → Prop} (w : Walk J n G Y) (Pv : Nat → L2.St → Hp → Prop) (h0 : Pv 0 σ H) (hG : ∀ i σ H, i ≤ n → Pv i σ H → G H)
    (hs : ∀ i x σ H H', i < n → Pv i σ H → Y i H x H' → g x σ H' fun σ2 H2 => tb { D with nx := Pv (i + 1), ct := Pv (i + 1), bk := D.nx } σ2 H2) (hd : ∀ σ H, Pv n σ H → D.nx σ H) : KForJ g tb D σ J H := for_it w Pv h0 hG hs hd
theorem g_turnC (e : wipe σ2 vs = σw) (q : tt σ2 H (KTst te Dr N σ2)) : KTurn vs σw tt te Dr N σ2 H := ⟨e, q⟩
theorem g_tst {b : Bool} (h1 : b = true → te σ2 H (KAcc Dr N)) (h2 : b = false → N H) : KTst te Dr N σ2 b H := by
  unfold KTst
  exact g_ite h1 h2
theorem g_yes (q : te σ2 H (KAcc Dr N)) : KTst te Dr N σ2 true H := by
  unfold KTst
  rw [if_pos rfl]
  exact q
theorem g_tYes {Q : Bool → Hp → Prop} (q : Q true H) : tYes σ H Q := q
theorem g_acc {acc : List V} {y : V} (h : H Dr = some (.lst acc)) (hl : acc.length < 1000000) (q : N (upd H Dr (.lst (acc ++ [y])))) : KAcc Dr N y H := ⟨acc, h, szlt hl, q⟩
/-- nothing to walk -/
theorem KLc.nilT (h : H a = some (.tup [])) (q : ∀ p H2, H p = none → Frm [] H H2 → H2 p = some (.lst []) → Q (.ref p) H2) : KLc g tt te vs σ Q (Itt K a) H :=
  KLc.mk (n := 0) (walk_tup (xs := [])) fun Dr hD => ⟨fun _ H' => H' = upd H Dr (.lst []), rfl, fun _ H' _ e => by rw [e]; exact SqT.of (by rw [upd_ne (ne_of_none h hD)]; exact h), fun _ _ _ _ z => absurd z (Nat.not_lt_zero _), fun H' e => by rw [e]; exact q _ _ hD (Frm.new hD) upd_same⟩
theorem KLc.nilK {od : Obj} (h : H a = some (.frz od (.dK []))) (q : ∀ p H2, H p = none → Frm [] H H2 → H2 p = some (.lst []) → Q (.ref p) H2) : KLc g tt te vs σ Q (Itk a od []) H :=
  KLc.mk (n := 0) (walk_keys (kvs := [])) fun Dr hD => ⟨fun _ H' => H' = upd H Dr (.lst []), rfl, fun _ H' _ e => by rw [e, upd_ne (ne_of_none h hD)]; exact h, fun _ _ _ _ z => absurd z (Nat.not_lt_zero _), fun H' e => by rw [e]; exact q _ _ hD (Frm.new hD) upd_same⟩
theorem KForT.nil {tg : TG} (h : H a = some (.tup [])) (q : D.nx σ H) : KForT K tg tb D σ (.ref a) H :=
  KForT.mk (xs := []) (fun _ σ' H' => σ' = σ ∧ H' = H) (fun _ _ _ _ e => by rw [e.2]; exact h) ⟨rfl, rfl⟩ (fun i x _ _ e => by simp at e) fun _ _ e => by rw [e.1, e.2]; exact q
theorem KForL.nil {tg : TG} (h : H a = some (.lst [])) (q : D.nx σ H) : KForL K tg tb D σ (.ref a) H :=
  KForL.mk (xs := []) (fun _ σ' H' => σ' = σ ∧ H' = H) (fun _ _ _ _ e => by rw [e.2]; exact h) ⟨rfl, rfl⟩ (fun i x _ _ e => by simp at e) fun _ _ e => by rw [e.1, e.2]; exact q
end

/-! dict comprehensions -/
def KDPut (Dr : Addr) (N : Hp → Prop) (y : V) : V → Hp → Prop := fun z H5 => ∃ kvs k, y = kV k ∧ H5 Dr = some (.dK kvs) ∧ kvs.length < sizeLine ∧ N (upd H5 Dr (.dK (putK kvs k z)))
def KDTurn (vs : List Nat) (σw : L2.St) (tt : TT) (tk tv : TE) (Dr : Addr) (N : Hp → Prop) : L2.St → Hp → Prop := fun σ2 H2 => wipe σ2 vs = σw ∧ tt σ2 H2 fun b H3 => if b = true then tk σ2 H3 fun y H4 => tv σ2 H4 (KDPut Dr N y) else N H3
def KDc (g : TG) (tt : TT) (tk tv : TE) (vs : List Nat) (σ : L2.St) (Q : VK) : It → Hp → Prop := fun J H1 => ∀ Dr, H1 Dr = none → ∃ W : Nat → Nat → Hp → Prop, (∃ m, W 0 m (upd H1 Dr (.dK []))) ∧ ∀ i m H, W i m H →
  (J.stop i H ∧ Q (.ref Dr) H) ∨ (J.go i H ∧ ∃ Nx : Hp → Prop, (∀ H', Nx H' → ∃ m', m' < m ∧ W (i + 1) m' H') ∧ ∀ x H', J.yld i H x H' → g x (wipe σ vs) H' (KDTurn vs (wipe σ vs) tt tk tv Dr Nx))
section
variable {K : PySem.W.Frag} {σ σ2 σw : L2.St} {H : Hp} {Q : VK} {g : TG} {tt : TT} {tk tv tl : TE} {vs : List Nat} {a Dr : Addr} {wi : TI} {N : Hp → Prop} {J : It} {y z : V}
theorem g_dc (q : wi σ H (KDc g tt tk tv vs σ Q)) : tDc wi g tt tk tv vs σ H Q := q
theorem KDc.mk {n : Nat} {G : Hp → Prop} {Y : Nat → Hp → V → Hp → Prop} (w : Walk J n G Y) (h : ∀ Dr, H Dr = none → ∃ Pv : Nat → Hp → Prop, Pv 0 (upd H Dr (.dK [])) ∧ (∀ i H, i ≤ n → Pv i H → G H) ∧
    (∀ i x H H', i < n → Pv i H → Y i H x H' → g x (wipe σ vs) H' (KDTurn vs (wipe σ vs) tt tk tv Dr (Pv (i + 1)))) ∧ ∀ H, Pv n H → Q (.ref Dr) H) : KDc g tt tk tv vs σ Q J H := fun Dr hD => by
  obtain ⟨Pv, h0, hG, hs, hd⟩ := h Dr hD
  refine ⟨fun i m H => m = n - i ∧ i ≤ n ∧ Pv i H, ⟨n, by simp, Nat.zero_le _, h0⟩, ?_⟩
  rintro i m H ⟨rfl, hi, p⟩
  have q := hG i H hi p
  by_cases hlt : i < n
  · exact .inr ⟨w.goes i H hlt q, Pv (i + 1), fun H' p' => ⟨n - (i + 1), by omega, rfl, hlt, p'⟩, fun x H' y => hs i x H H' hlt p (w.yields i H x H' hlt q y)⟩
  · have e : i = n := by omega
    subst e
    exact .inl ⟨w.stops H q, hd H p⟩
theorem g_dturn (e : wipe σ2 vs = σw) (q : tk σ2 H fun y H4 => tv σ2 H4 (KDPut Dr N y)) : KDTurn vs σw tYes tk tv Dr N σ2 H := ⟨e, iteT (A := tk σ2 H fun y H4 => tv σ2 H4 (KDPut Dr N y)) (B := N H) q⟩
theorem g_dputN {kvs : List (Key × V)} {k : Str} (h : H Dr = some (.dK kvs)) (hl : kvs.length < 1000000) (q : N (upd H Dr (.dK (putK kvs (Sum.inr k) z)))) : KDPut Dr N (.str k) z H := ⟨kvs, Sum.inr k, rfl, h, szlt hl, q⟩
theorem KDc.nilT (h : H a = some (.tup [])) (q : ∀ p H2, H p = none → Frm [] H H2 → H2 p = some (.dK []) → Q (.ref p) H2) : KDc g tt tk tv vs σ Q (Itt K a) H :=
  KDc.mk (n := 0) (walk_tup (xs := [])) fun Dr hD => ⟨fun _ H' => H' = upd H Dr (.dK []), rfl, fun _ H' _ e => by rw [e]; exact SqT.of (by rw [upd_ne (ne_of_none h hD)]; exact h), fun _ _ _ _ z => absurd z (Nat.not_lt_zero _), fun H' e => by rw [e]; exact q _ _ hD (Frm.new hD) upd_same⟩
theorem KDc.nilK {od : Obj} (h : H a = some (.frz od (.dK []))) (q : ∀ p H2, H p = none → Frm [] H H2 → H2 p = some (.dK []) → Q (.ref p) H2) : KDc g tt tk tv vs σ Q (Itk a od []) H :=
  KDc.mk (n := 0) (walk_keys (kvs := [])) fun Dr hD => ⟨fun _ H' => H' = upd H Dr (.dK []), rfl, fun _ H' _ e => by rw [e, upd_ne (ne_of_none h hD)]; exact h, fun _ _ _ _ z => absurd z (Nat.not_lt_zero _), fun H' e => by rw [e]; exact q _ _ hD (Frm.new hD) upd_same⟩
end
/-! the trees again -/
def inn : Stm → List (List Stm)
  | .ite _ _ y n => [y, n]
  | .whl _ _ b => [b]
  | _ => []
def encBT (b : List Stm) : PyData := .tuple (encB b)
theorem all_inn (s : Stm) : s.all = s :: (inn s).flatMap allB := by cases s <;> simp [Stm.all, inn]
theorem sz_inn (s : Stm) : s.sz = 1 + ((inn s).map szB).sum := by cases s <;> simp [Stm.sz, inn] <;> omega
theorem dp_inn {s : Stm} {b : List Stm} (h : b ∈ inn s) : dpB b < s.dp := by
  cases s with
  | ite e v y n =>
    simp only [inn, List.mem_cons, List.not_mem_nil, or_false] at h
    simp only [Stm.dp]
    rcases h with rfl | rfl <;> omega
  | whl e v c =>
    simp only [inn, List.mem_cons, List.not_mem_nil, or_false] at h
    subst h
    simp only [Stm.dp]; omega
  | msg _ _ _ _ _ => cases h
  | set _ _ _ => cases h
  | ask _ _ => cases h
  | call _ _ => cases h
theorem encB_len (b : List Stm) : (encB b).length = b.length := by rw [encB_map, List.length_map]
theorem encB_app (a b : List Stm) : encB (a ++ b) = encB a ++ encB b := by rw [encB_map, encB_map, encB_map, List.map_append]
theorem encB_at {b : List Stm} {i : Nat} {s : Stm} (h : b[i]? = some s) : (encB b)[i]? = some (encS s) := by rw [encB_map, List.getElem?_map, h]; rfl
theorem encB_atE {b : List Stm} {i : Nat} {d : PyData} (h : (encB b)[i]? = some d) : ∃ s, b[i]? = some s ∧ d = encS s := by
  rw [encB_map, List.getElem?_map] at h
  cases e : b[i]? with
  | none => rw [e] at h; cases h
  | some s => rw [e] at h; exact ⟨s, rfl, (Option.some.inj h).symm⟩
theorem szB_take (b : List Stm) (i : Nat) : szB (b.take i) ≤ szB b := by
  have h := szB_append (b.take i) (b.drop i)
  rw [List.take_append_drop] at h
  omega
theorem allB_snoc (a : List Stm) (s : Stm) : allB (a ++ [s]) = allB a ++ s.all := by rw [allB_append]; simp [allB]
theorem len_le_szB (b : List Stm) : b.length ≤ szB b := by
  induction b with
  | nil => exact Nat.le_refl _
  | cons s r ih =>
    have := sz_pos s
    simp only [szB, List.length_cons]
    omega
/-- a turn over a block -/
theorem DL.stm {H : Hp} {xs : List V} {b : List Stm} (h : DL H xs (encB b)) {i : Nat} {x : V} (e : xs[i]? = some x) : ∃ s, b[i]? = some s ∧ D H x (encS s) := by
  obtain ⟨d, e1, dx⟩ := h.getV e
  obtain ⟨s, e2, rfl⟩ := encB_atE e1
  exact ⟨s, e2, dx⟩
theorem DL.encLen {H : Hp} {xs : List V} {b : List Stm} (h : DL H xs (encB b)) : xs.length = b.length := by rw [h.len, encB_len]
end K34

/-! Methods; the error of one's own. -/
namespace K34
open PySem PySem.Spec PyProof.Rows L2

def inClass (st : Stmt) (j : Nat) : Stmt := match st with
  | .ClassDef _ _ _ b _ _ _ _ _ _ _ => b.getD j (.Pass ⟨0, 0, 0, 0⟩)
  | _ => .Pass ⟨0, 0, 0, 0⟩
/-- a def keeps a promise (a method) -/
def HasM (P : Program) (w : World) (K : PySem.W.Frag) (mg : Str → Option Value) (base : Heap) (CX : CXT) (f : Addr) (ps : List Str) (k : Nat) (sp : Sp) : Prop := ∃ fd, FnOk P w K mg base CX k f fd ps sp ∧ Binds K fd ps []
def AtM (K : PySem.W.Frag) (x q : Str) (st : Stmt) (ps : List Str) (f : Addr) : Prop := ∃ fd, Fun K x q st f fd ∧ Binds K fd ps []
section
variable {P : Program} {w : World} {K : PySem.W.Frag} {mg : Str → Option Value} {base : Heap} {x q : Str} {ps N : List Str} {st : Stmt} {k : Nat} {sp : Sp} {f : Addr}
theorem hasM_mk (A : AtM K x q st ps f) (S : FnScope N ps (defScope st)) (len : ∀ vs H Q E, sp vs H Q E → vs.length = ps.length)
    (body : ∀ (cdv : Value) (A : Around) (outer : List Env) (s : Shared) (H : Hp) (vs : List V) (Q : VK) (E : XK), Room k (A.deeper (envOfC q (defScope st) s.heap.objs.size f cdv)) → sp vs H Q E →
      ∃ t, PSs (cxOf CX0 P w K mg base N q (defScope st) f cdv A outer s H E).nox (defBody st) t ∧ t { nx := fun _ H' => Q .non H', rt := Q } (start N vs) H) : HasM P w K mg base CX0 f ps (k + 1) sp := by
  obtain ⟨fd, F, b⟩ := A
  exact ⟨fd, F.ok S len fun cdv A outer s H vs Q E hr h => body cdv A outer s H vs Q E hr h, b⟩
theorem hasM_mkX (A : AtM K x q st ps f) (S : FnScope N ps (defScope st)) (len : ∀ vs H Q E, sp vs H Q E → vs.length = ps.length)
    (body : ∀ (cdv : Value) (A : Around) (outer : List Env) (s : Shared) (H : Hp) (vs : List V) (Q : VK) (E : XK), Room k (A.deeper (envOfC q (defScope st) s.heap.objs.size f cdv)) → sp vs H Q E →
      ∃ t, PSs (cxOf (L2.CX P w) P w K mg base N q (defScope st) f cdv A outer s H E) (defBody st) t ∧ t { nx := fun _ H' => Q .non H', rt := Q } (start N vs) H) : HasM P w K mg base (L2.CX P w) f ps (k + 1) sp := by
  obtain ⟨fd, F, b⟩ := A
  exact ⟨fd, F.okX S len fun cdv A outer s H vs Q E hr h => body cdv A outer s H vs Q E hr h, b⟩
end

/-- InvalidScore -/
structure ExC (K : PySem.W.Frag) (mg : Str → Option Value) (CI fI : Addr) : Prop where
  T : OexC K CI
  iC : PySem.W.findIn K (.ref CI) "__init__" = some (some (.ref fI))
  tI : PySem.W.typeIn K (.ref fI) = some (.type "function")
  no : PySem.W.findIn K (.ref CI) "rule" = some none
  g : mg "InvalidScore" = some (.ref CI)
def pIni (K : PySem.W.Frag) (CI : Addr) (se r : V) (H : Hp) (Q : VK) (_ : XK) : Prop := ∃ a, se = .ref a ∧ H a = some (exo a CI none) ∧ ∀ dx, H dx = none → dx ≠ a → Q .non (upd (upd H dx (exd dx [("rule", r)])) a (exo a CI (some dx)))
section
variable {X : Cx} {CX : CXT} {p pos : Pos} {e : Expr} {es : List Expr} {t : TA} {CI fI : Addr} {k : Nat} {K : PySem.W.Frag}
theorem pmk_inv (Ex : ExC X.K X.mg CI fI) (h : HasM X.prog X.w X.K X.mg X.base CX0 fI ["self", "rule"] k (sp2 (pIni X.K CI))) (hr : Room (k + 1) X.A) (hg : Gl X "InvalidScore") (ha : PA X (e :: es) t)
    (he : starEach (e :: es) X.env = (false, eval e X.env) :: starEach es X.env := by rfl) (hpl : (backTo pos (starEach es X.env)).any (·.1) = false := by rfl) :
    PMk X (.Call (.Name "InvalidScore" p) (e :: es) [] pos) (tMkO CI (sp2 (pIni X.K CI)) [] t) := by
  obtain ⟨fd, F, b⟩ := h
  exact pmk_oex Ex.T Ex.iC Ex.tI F hr b .nil pass0 hg Ex.g ha (by decide) he hpl
/-- raise InvalidScore(r) -/
def KRaise (CI : Addr) (N : Value → Option Addr → Hp → Prop) : List V → Hp → Prop := fun vs H1 => vs.length ≤ 1000 ∧ ∀ a, H1 a = none → sp2 (pIni K CI) (.ref a :: (vs ++ [])) (upd H1 a (exo a CI none))
  (fun v H2 => v = .non ∧ ∃ (d : Addr) (fs : List (Str × V)), H2 a = some (exo a CI (some d)) ∧ H2 d = some (exd d fs) ∧ H1 d = none ∧ N (.ref CI) (some d) (upd (del H2 a) d (.xd fs))) (fun _ _ _ => False)
theorem g_mkO {K : PySem.W.Frag} {σ : L2.St} {H : Hp} {N : XK} {r : V} (q : ∀ d H2, Frm [] H H2 → H2 d = some (.xd [("rule", r)]) → N (.ref CI) (some d) H2) : tMkO CI (sp2 (pIni K CI)) [] (tCons (tC r) tNil) σ H N := by
  refine ⟨show 1 ≤ 1000 by decide, fun a hn => ⟨.ref a, r, rfl, a, rfl, upd_same, fun dx hd ne => ⟨rfl, dx, [("rule", r)], upd_same, ?_, ?_, ?_⟩⟩⟩
  · rw [upd_ne ne]; exact upd_same
  · rw [upd_ne ne] at hd; exact hd
  · rw [upd_ne ne] at hd
    refine q dx _ ⟨fun b o _ hb => ?_, fun b xs hb => ?_⟩ upd_same
    · have n1 : b ≠ a := ne_of_none hb hn
      have n2 : b ≠ dx := ne_of_none hb hd
      rw [upd_ne n2, del_ne n1, upd_ne n1, upd_ne n2, upd_ne n1]; exact hb
    · have n1 : b ≠ a := ne_of_none hb hn
      have n2 : b ≠ dx := ne_of_none hb hd
      rw [upd_ne n2, del_ne n1, upd_ne n1, upd_ne n2, upd_ne n1]; exact hb
theorem g_mkV {K : PySem.W.Frag} {σ : L2.St} {H : Hp} {N : XK} {r : V} {i : Nat} (e : σ[i]? = some (some r)) (q : ∀ d H2, Frm [] H H2 → H2 d = some (.xd [("rule", r)]) → N (.ref CI) (some d) H2) : tMkO CI (sp2 (pIni K CI)) [] (tCons (tVar i) tNil) σ H N := ⟨r, e, g_mkO (σ := σ) q⟩
end

section
variable {K : PySem.W.Frag} {σ : L2.St} {H : Hp} {Q : VK} {g : TG} {tt : TT} {te : TE} {vs : List Nat} {J : It} {a : Addr} {xs : List V}
/-- a comprehension that gives the data ds, one for each turn -/
theorem KLc.map {n : Nat} {G : Hp → Prop} {Y : Nat → Hp → V → Hp → Prop} (w : Walk J n G Y) (hG : ∀ H', Frm [] H H' → G H') (ds : List PyData) (hn : ds.length = n) (hl : n ≤ 1000000)
    (turn : ∀ i x H1 H' Dr N d, ds[i]? = some d → Frm [] H H1 → Y i H1 x H' → (∀ y H2, Frm [] H1 H2 → D H2 y d → KAcc Dr N y H2) → g x (wipe σ vs) H' (KTurn vs (wipe σ vs) tt te Dr N))
    (q : ∀ l H2 ys, H l = none → Frm [] H H2 → H2 l = some (.lst ys) → DL H2 ys ds → Q (.ref l) H2) : KLc g tt te vs σ Q J H := by
  refine KLc.mk w fun Dr hD => ⟨fun i H' => LI [] H Dr (ds.take i) H', .new (Frm.new hD) upd_same, fun i H' _ h => hG H' h.fr, fun i x H1 H' hi h y => ?_, fun H' h => ?_⟩
  · have hd : ds[i]? = some (ds[i]'(by omega)) := List.getElem?_eq_getElem (by omega)
    refine turn i x H1 H' Dr _ _ hd h.fr y fun y H2 f2 dy => ?_
    obtain ⟨ys, e, dl⟩ := (h.frm f2).at_
    refine g_acc e (by rw [dl.len, List.length_take]; omega) ?_
    show LI [] H Dr (ds.take (i + 1)) _
    rw [take_snoc hd]
    exact (h.frm f2).app hD e dy
  · obtain ⟨ys, e, dl⟩ := h.at_
    rw [← hn, List.take_length] at dl
    exact q Dr H' ys hD h.fr e dl
theorem KLc.mapL (h : H a = some (.lst xs)) (ds : List PyData) (hn : ds.length = xs.length) (hl : xs.length ≤ 1000000)
    (turn : ∀ (i : Nat) (x : V) (H1 : Hp) (Dr : Addr) (N : Hp → Prop) (d : PyData), xs[i]? = some x → ds[i]? = some d → Frm [] H H1 → (∀ y H2, Frm [] H1 H2 → D H2 y d → KAcc Dr N y H2) → g x (wipe σ vs) H1 (KTurn vs (wipe σ vs) tt te Dr N))
    (q : ∀ l H2 ys, H l = none → Frm [] H H2 → H2 l = some (.lst ys) → DL H2 ys ds → Q (.ref l) H2) : KLc g tt te vs σ Q (Itl K a) H :=
  KLc.map (walk_list (xs := xs)) (fun H' f => SqL.of (f.get0 h)) ds hn hl (fun i x H1 H' Dr N d hd f y k => by obtain ⟨rfl, hx⟩ := y; exact turn i x _ Dr N d hx hd f k) q
theorem KLc.mapT (h : H a = some (.tup xs)) (ds : List PyData) (hn : ds.length = xs.length) (hl : xs.length ≤ 1000000)
    (turn : ∀ (i : Nat) (x : V) (H1 : Hp) (Dr : Addr) (N : Hp → Prop) (d : PyData), xs[i]? = some x → ds[i]? = some d → Frm [] H H1 → (∀ y H2, Frm [] H1 H2 → D H2 y d → KAcc Dr N y H2) → g x (wipe σ vs) H1 (KTurn vs (wipe σ vs) tt te Dr N))
    (q : ∀ l H2 ys, H l = none → Frm [] H H2 → H2 l = some (.lst ys) → DL H2 ys ds → Q (.ref l) H2) : KLc g tt te vs σ Q (Itt K a) H :=
  KLc.map (walk_tup (xs := xs)) (fun H' f => SqT.of (f.get0 h)) ds hn hl (fun i x H1 H' Dr N d hd f y k => by obtain ⟨rfl, hx⟩ := y; exact turn i x _ Dr N d hx hd f k) q
theorem DL.bools {ys : List V} : ∀ {bs : List Bool}, DL H ys (bs.map PyData.bool) → ys = bs.map V.bl := by
  intro bs
  induction bs generalizing ys with
  | nil => intro h; exact h.nilE
  | cons b r ih =>
    intro h
    obtain ⟨x, t, rfl, h1, h2⟩ := h.consE
    cases h1
    rw [ih h2]; rfl
theorem DL.strs {ys : List V} : ∀ {bs : List Str}, DL H ys (bs.map PyData.str) → ys = bs.map V.str := by
  intro bs
  induction bs generalizing ys with
  | nil => intro h; exact h.nilE
  | cons b r ih =>
    intro h
    obtain ⟨x, t, rfl, h1, h2⟩ := h.consE
    cases h1
    rw [ih h2]; rfl
theorem DL.ofStrs : ∀ {bs : List Str}, DL H (bs.map V.str) (bs.map PyData.str)
  | [] => .nil
  | b :: r => .cons (.str b) DL.ofStrs
theorem g_allL {bs : List Bool} (h : H a = some (.lst (bs.map V.bl))) (q : Q (.bl (bs.all id)) H) : rAll K [.ref a] H Q := ⟨a, bs, rfl, SqL.of h, q⟩
theorem g_anyL {bs : List Bool} (h : H a = some (.lst (bs.map V.bl))) (q : Q (.bl (bs.any id)) H) : rAny K [.ref a] H Q := ⟨a, bs, rfl, SqL.of h, q⟩
theorem flatStrs (Es : List Str) : (Es.map V.str).all flatV = true := by
  rw [List.all_eq_true]
  intro x hx
  obtain ⟨y, _, rfl⟩ := List.mem_map.mp hx
  rfl
theorem inV_str (n : Str) : ∀ Es : List Str, inV (.str n) (Es.map V.str) = decide (n ∈ Es)
  | [] => by simp [inV]
  | e :: r => by
    have ih := inV_str n r
    unfold inV at ih ⊢
    rw [List.map_cons, List.any_cons, ih]
    have : eqV (.str e) (.str n) = decide (e = n) := by
      show (e == n) = decide (e = n)
      rw [bqS]
    rw [this]
    by_cases h : e = n
    · subst h; simp
    · have h' : ¬ n = e := fun z => h z.symm
      simp [h, h']
end
end K34

/-! A statement by its first items. -/
namespace K34
open PySem PySem.Spec PyProof.Rows L2
def wd : Stm → Str
  | .msg _ _ _ _ _ => "message"
  | .set _ _ _ => "set"
  | .ask _ _ => "ask"
  | .ite _ _ _ _ => "if"
  | .whl _ _ _ => "while"
  | .call _ _ => "call"
def goodB (b : List Stm) : Prop := ∀ s ∈ allB b, goodF s.flat
theorem self_all (s : Stm) : s ∈ s.all := by rw [all_inn]; exact List.mem_cons_self
theorem all_mem {s : Stm} {b : List Stm} (h : s ∈ b) : ∀ t ∈ s.all, t ∈ allB b := by
  induction b with
  | nil => cases h
  | cons a r ih =>
    intro t ht
    rw [allB, List.mem_append]
    rcases List.mem_cons.mp h with rfl | h
    · exact .inl ht
    · exact .inr (ih h t ht)
theorem inn_mem {s : Stm} {c : List Stm} (h : c ∈ inn s) : ∀ t ∈ allB c, t ∈ s.all := fun t ht => by
  rw [all_inn]
  exact List.mem_cons_of_mem _ (List.mem_flatMap.mpr ⟨c, h, ht⟩)
theorem goodB.at_ {b : List Stm} (g : goodB b) {s : Stm} (h : s ∈ b) : goodF s.flat := g s (all_mem h s (self_all s))
theorem goodB.inn {b : List Stm} (g : goodB b) {s : Stm} (h : s ∈ b) {c : List Stm} (hc : c ∈ inn s) : goodB c := fun t ht => g t (all_mem h t (inn_mem hc t ht))
theorem sz_mem {s : Stm} {b : List Stm} (h : s ∈ b) : s.sz ≤ szB b := by
  induction b with
  | nil => cases h
  | cons a r ih =>
    rw [szB]
    rcases List.mem_cons.mp h with rfl | h
    · omega
    · have := ih h; omega
theorem sz_innM {s : Stm} {c : List Stm} (h : c ∈ inn s) : szB c < s.sz := by
  cases s with
  | ite e v y n =>
    simp only [inn, List.mem_cons, List.not_mem_nil, or_false] at h
    simp only [Stm.sz]
    rcases h with rfl | rfl <;> omega
  | whl e v d =>
    simp only [inn, List.mem_cons, List.not_mem_nil, or_false] at h
    subst h
    simp only [Stm.sz]; omega
  | msg _ _ _ _ _ => cases h
  | set _ _ _ => cases h
  | ask _ _ => cases h
  | call _ _ => cases h
theorem flatTake {α β : Type} (f : α → List β) (l : List α) (j : Nat) : ((l.take j).flatMap f).length ≤ (l.flatMap f).length := by
  have : l.flatMap f = (l.take j).flatMap f ++ (l.drop j).flatMap f := by rw [← List.flatMap_append, List.take_append_drop]
  rw [this, List.length_append]; omega
theorem wd_call {s : Stm} (h : goodF s.flat) : decide (V.str (wd s) = V.str "call") = false := by
  cases s with
  | call p es => exact False.elim h
  | msg f t l v x => exact (by decide +kernel : decide (V.str "message" = V.str "call") = false)
  | set e x v => exact (by decide +kernel : decide (V.str "set" = V.str "call") = false)
  | ask e x => exact (by decide +kernel : decide (V.str "ask" = V.str "call") = false)
  | ite e v y n => exact (by decide +kernel : decide (V.str "if" = V.str "call") = false)
  | whl e v b => exact (by decide +kernel : decide (V.str "while" = V.str "call") = false)
theorem wd_msg : ∀ {s : Stm}, (∀ f t l v x, s ≠ .msg f t l v x) → decide (V.str (wd s) = V.str "message") = false := fun {s} h => by
  cases s with
  | msg f t l v x => exact absurd rfl (h f t l v x)
  | set e x v => exact (by decide +kernel : decide (V.str "set" = V.str "message") = false)
  | ask e x => exact (by decide +kernel : decide (V.str "ask" = V.str "message") = false)
  | ite e v y n => exact (by decide +kernel : decide (V.str "if" = V.str "message") = false)
  | whl e v b => exact (by decide +kernel : decide (V.str "while" = V.str "message") = false)
  | call p es => exact (by decide +kernel : decide (V.str "call" = V.str "message") = false)
def isW : Stm → Nat
  | .whl _ _ _ => 1
  | _ => 0
theorem wd_while (s : Stm) : decide (V.str (wd s) = V.str "while") = decide (isW s = 1) := by
  cases s with
  | msg f t l v x => exact (by decide +kernel : decide (V.str "message" = V.str "while") = decide (0 = 1))
  | set e x v => exact (by decide +kernel : decide (V.str "set" = V.str "while") = decide (0 = 1))
  | ask e x => exact (by decide +kernel : decide (V.str "ask" = V.str "while") = decide (0 = 1))
  | ite e v y n => exact (by decide +kernel : decide (V.str "if" = V.str "while") = decide (0 = 1))
  | whl e v b => exact (by decide +kernel : decide (V.str "while" = V.str "while") = decide (1 = 1))
  | call p es => exact (by decide +kernel : decide (V.str "call" = V.str "while") = decide (0 = 1))
/-- the first items of a statement -/
theorem D.stm1 {H : Hp} {v : V} {s : Stm} (h : D H v (encS s)) : ∃ b xs, v = .ref b ∧ H b = some (.tup (.str (wd s) :: xs)) := by
  cases s with
  | msg f t l w y =>
    obtain ⟨b, x0, x1, x2, x3, x4, x5, rfl, hb, d0, d1, d2, d3, d4, d5⟩ := D.t6 h
    cases d0
    exact ⟨_, _, rfl, hb⟩
  | set e1 y w =>
    obtain ⟨b, x0, x1, x2, x3, rfl, hb, d0, d1, d2, d3⟩ := D.t4 h
    cases d0
    exact ⟨_, _, rfl, hb⟩
  | ask e1 y =>
    obtain ⟨b, x0, x1, x2, rfl, hb, d0, d1, d2⟩ := D.t3 h
    cases d0
    exact ⟨_, _, rfl, hb⟩
  | ite e1 w y n =>
    obtain ⟨b, x0, x1, x2, x3, x4, rfl, hb, d0, d1, d2, d3, d4⟩ := D.t5 h
    cases d0
    exact ⟨_, _, rfl, hb⟩
  | whl e1 w c =>
    obtain ⟨b, x0, x1, x2, x3, rfl, hb, d0, d1, d2, d3⟩ := D.t4 h
    cases d0
    exact ⟨_, _, rfl, hb⟩
  | call p es =>
    obtain ⟨b, x0, x1, x2, rfl, hb, d0, d1, d2⟩ := D.t3 h
    cases d0
    exact ⟨_, _, rfl, hb⟩
theorem D.stm2 {H : Hp} {v : V} {s : Stm} (h : D H v (encS s)) (g : goodF s.flat) : (∃ f t l w y b x3 x4 x5, s = .msg f t l w y ∧ v = .ref b ∧ H b = some (.tup [.str "message", .str f, .str t, x3, x4, x5])) ∨
    (decide (V.str (wd s) = V.str "message") = false ∧ ∃ e b xs, s.ends1 = [e] ∧ (∀ Es, okF Es s.flat ↔ e ∈ Es) ∧ v = .ref b ∧ H b = some (.tup (.str (wd s) :: .str e :: xs))) := by
  cases s with
  | msg f t l w y =>
    obtain ⟨b, x0, x1, x2, x3, x4, x5, rfl, hb, d0, d1, d2, d3, d4, d5⟩ := D.t6 h
    cases d0
    cases d1
    cases d2
    exact .inl ⟨_, _, _, _, _, _, _, _, _, rfl, rfl, hb⟩
  | set e1 y w =>
    obtain ⟨b, x0, x1, x2, x3, rfl, hb, d0, d1, d2, d3⟩ := D.t4 h
    cases d0
    cases d1
    exact .inr ⟨(by decide +kernel : decide (V.str "set" = V.str "message") = false), _, _, _, rfl, fun _ => Iff.rfl, rfl, hb⟩
  | ask e1 y =>
    obtain ⟨b, x0, x1, x2, rfl, hb, d0, d1, d2⟩ := D.t3 h
    cases d0
    cases d1
    exact .inr ⟨(by decide +kernel : decide (V.str "ask" = V.str "message") = false), _, _, _, rfl, fun _ => Iff.rfl, rfl, hb⟩
  | ite e1 w y n =>
    obtain ⟨b, x0, x1, x2, x3, x4, rfl, hb, d0, d1, d2, d3, d4⟩ := D.t5 h
    cases d0
    cases d1
    exact .inr ⟨(by decide +kernel : decide (V.str "if" = V.str "message") = false), _, _, _, rfl, fun _ => Iff.rfl, rfl, hb⟩
  | whl e1 w c =>
    obtain ⟨b, x0, x1, x2, x3, rfl, hb, d0, d1, d2, d3⟩ := D.t4 h
    cases d0
    cases d1
    exact .inr ⟨(by decide +kernel : decide (V.str "while" = V.str "message") = false), _, _, _, rfl, fun _ => Iff.rfl, rfl, hb⟩
  | call p es => exact False.elim g
theorem max_nat (i j : Nat) : (if (j : Int) > (i : Int) then (j : Int) else (i : Int)) = ((max i j : Nat) : Int) := by
  by_cases h : i < j
  · rw [if_pos (by omega), Nat.max_eq_right (by omega)]
  · rw [if_neg (by omega), Nat.max_eq_left (by omega)]
theorem lp_inn (s : Stm) (d : Nat) : (inn s).foldl (fun m c => max m (lpB c + isW s)) d = max d s.lp := by
  cases s <;> simp only [inn, List.foldl_cons, List.foldl_nil, isW, Stm.lp] <;> omega
theorem szB_snoc (a : List Stm) (s : Stm) : szB (a ++ [s]) = szB a + s.sz := by rw [szB_append]; simp [szB]
theorem lpB_snoc (a : List Stm) (s : Stm) : lpB (a ++ [s]) = max (lpB a) s.lp := by rw [lpB_append]; simp [lpB]
end K34

/-! Rules for the block of a comprehension: the frag told. -/
namespace K34
open PySem PySem.Spec PyProof.Rows L2
section
variable {X : Cx} {K : PySem.W.Frag}
theorem b_ixT (K : PySem.W.Frag) (e : X.K = K := by rfl) : IxR X (rIxT K) := by subst e; exact ix_tup
theorem b_ixL (K : PySem.W.Frag) (e : X.K = K := by rfl) : IxR X (rIxL K) := by subst e; exact ix_list
theorem b_in (K : PySem.W.Frag) (e : X.K = K := by rfl) : OpR X (compareOp .In) (rIn K false) := by subst e; exact op_in_seq
theorem b_nin (K : PySem.W.Frag) (e : X.K = K := by rfl) : OpR X (compareOp .NotIn) (rIn K true) := by subst e; exact op_notIn_seq
theorem b_slT (K : PySem.W.Frag) (e : X.K = K := by rfl) : SlR X (rSlA K) := by subst e; exact sl_tupA
theorem b_catT (K : PySem.W.Frag) (e : X.K = K := by rfl) : OpR X (binaryOp .Add) (rCatA K) := by subst e; exact op_catA
theorem b_len (K : PySem.W.Frag) (e : X.K = K := by rfl) : CallR X (.builtin "len") (rLen K) := by subst e; exact k_len
end
end K34

namespace K34
open PySem PySem.Spec PyProof.Rows L2
section
variable {X : Cx} {H : Hp} {Q : VK} {a : Addr}
def rLenD : List V → Hp → VK → Prop := fun xs H Q => ∃ a kvs, xs = [.ref a] ∧ Rd H a (.dK kvs) ∧ Q (.int (kvs.length : Nat)) H
theorem k_lenD : CallR X (.builtin "len") rLenD := by
  intro pins s σ H xs us Q I r h
  obtain ⟨a, kvs, rfl, ha, q⟩ := h
  cases r with
  | cons r rr =>
    cases rr
    cases r
    exact d_len I ha fun t s' I' => ⟨.int kvs.length, H, I', ⟨t, rfl⟩, q⟩
theorem g_lenD {kvs : List (Key × V)} (h : Rd H a (.dK kvs)) (q : Q (.int (kvs.length : Nat)) H) : rLenD [.ref a] H Q := ⟨a, kvs, rfl, h, q⟩
end
section
variable {X : Cx}
/-- name = {..} by a comprehension, on one line -/
theorem ps_setDc {i : Nat} {y : Str} {py : Pos} {kx vx tg iter : Expr} {ifs : List Expr} {scope : Scope} {own : List (Str × Nat)} {pos spos : Pos} {wi : TI} {g : TG} {tt : TT} {tk tv : TE} (hc : X.calm = true) (hN : X.N.Nodup) (hy : X.N[i]? = some y) (hyl : X.env.scope.names.lookup y = some .local)
    (hsw : swapsWith (.DictComp kx vx [⟨tg, iter, ifs, 0⟩] scope pos) (some (.Name y py)) spos.line X.env = pure true) (hi : PI X tg iter wi) (ok : BlkOk X.N X.env.scope scope own)
    (hg : ∀ (s : Shared) (H : Hp) (C : Addr) (cl : List (Str × Addr)) (fp : List Addr), PG (X.blk s H scope (compEnvC scope cl C X.env) fp) tg g) (ht : ∀ (s : Shared) (H : Hp) (C : Addr) (cl : List (Str × Addr)) (fp : List Addr), PTs (X.blk s H scope (compEnvC scope cl C X.env) fp) ifs tt)
    (hk : ∀ (s : Shared) (H : Hp) (C : Addr) (cl : List (Str × Addr)) (fp : List Addr), PE (X.blk s H scope (compEnvC scope cl C X.env) fp) kx tk)
    (he : ∀ (s : Shared) (H : Hp) (C : Addr) (cl : List (Str × Addr)) (fp : List Addr), PE (X.blk s H scope (compEnvC scope cl C X.env) fp) vx tv) (hs : ∀ x, foldedSetIterable iter X.env x = pure x := by intro _; rfl) :
    PS X (.Assign [.Name y py] (.DictComp kx vx [⟨tg, iter, ifs, 0⟩] scope pos) spos) (tAsg (tDc wi g tt tk tv (own.map (·.2))) (gName i)) := by
  refine ⟨fun pins s σ H D I h => ?_⟩
  rw [exec_Assign_Name_used _ _ _ _ hsw]
  refine wpAny_bind (wpAny_standAt (wpAny_bind ?_))
  show wpAny _ X.A (do let _ ← comprehension (.DictComp kx vx [⟨tg, iter, ifs, 0⟩] scope pos) scope X.env _ newDict false (eval iter X.env) (some (assign (.Name y py) X.env))) _ _ s
  have h : tDc wi g tt tk tv (own.map (·.2)) σ H (fun x H1 => gName i x σ H1 D.nx) := h
  refine wpAny_bind (thn (dc_core (Qf := fun _ s' => SP X pins D .next s') hc hN I hi ok hg ht hk he hs h fun L C s' m H' I' q hn f => ?_) fun _ s' hq => wpAny_pure (wpAny_pure hq))
  show wpAny _ _ (assign (.Name y py) X.env (.ref L)) _ _ _
  refine wpAny_assign_Name (store_ok2 (v := V.ref L) I' hN hy (.inl hyl) rfl (fun s2 I2 ⟨a, sb, ha⟩ => ?_) (.inr hyl))
  obtain ⟨f0, f1, f2, f3, f4, f5⟩ := f
  have haC : C ≠ a := by
    rcases ha with z | z
    · rw [z]; exact f1
    · exact fun e => f4 y a z e.symm
  exact ⟨m, hn.sameBut sb haC, fun h3 sb3 => ⟨_, H', I2.turned (t' := s2.toks) (fun b o hb e => (sb3.2 b hb).trans e) f0 f1 f3 f4 f5, q⟩⟩
theorem sw_trueD {kx vx : Expr} {gs : List Comprehension} {scope : Scope} {pos py : Pos} {y : Str} {l : Nat} {env : Env} (hk : env.scope.kind = .function) (hy : env.scope.names.lookup y = some .local) (hl : (py.line == pos.line) = true)
    (ha : (scope.names.any fun (n, k) => n == y && (k == .local || k == .cell)) = false) : swapsWith (.DictComp kx vx gs scope pos) (some (.Name y py)) l env = pure true := by
  have ky : env.kindOf y = some .local := hy
  have hb : env.blockKind = .function := by unfold Env.blockKind; rw [hk]; rfl
  unfold swapsWith
  simp only [hb, ky, ha, Expr.pos, hl]
  rfl
end
theorem Frm.cut {S : List Addr} {H H' H2 : Hp} (f : Frm [] H H') (g : Frm S H' H2) (h : ∀ x, x ∈ S → H x = none) : Frm [] H H2 :=
  ⟨fun a o _ e => g.keep a o (fun z => by rw [h a z] at e; cases e) (f.get0 e), fun a xs e => g.tup a xs (f.tup a xs e)⟩
theorem Frm.frz {H H' : Hp} {a : Addr} {o u : HO} (f : Frm [] H H') (n : H' a = some o) (nt : NT o) : Frm [a] H (upd H' a u) := f.any.trans (Frm.mut List.mem_cons_self n nt)
def encT (Es : List Str) (B : List Stm) : PyData := .tuple [.tuple (Es.map .str), .tuple [], encBT B]
end K34

namespace K34
open PySem PySem.Spec PyProof.Rows L2
section
variable {σ : L2.St} {H : Hp} {Q : VK} {ta tb tc : TE} {r r' : R2}
theorem g_chain (q : ta σ H fun x H1 => tb σ H1 fun y H2 => r x y H2 fun z H3 => ∃ k, z = .bl k ∧ (if k = true then tc σ H3 fun w' H4 => r' y w' H4 Q else Q (.bl false) H3)) : tChain r r' ta tb tc σ H Q := q
end
theorem decI {a b : Nat} : decide (V.int (a : Int) = V.int (b : Int)) = decide (a = b) := by
  by_cases h : a = b
  · subst h; simp
  · rw [decide_eq_false h, decide_eq_false (fun q => h (by have := V.int.inj q; omega))]
theorem goodB.one {b : List Stm} (g : goodB b) {s : Stm} (h : s ∈ b) : goodB [s] := fun t ht => by
  simp only [allB, List.append_nil] at ht
  exact g t (all_mem h t ht)
theorem dp_one {b : List Stm} {s : Stm} (h : s ∈ b) : dpB [s] ≤ dpB b := by
  have := dp_mem h
  simp only [dpB]; omega
theorem sz_one {b : List Stm} {s : Stm} (h : s ∈ b) : szB [s] ≤ szB b := by
  have := sz_mem h
  simp only [szB]; omega
theorem DL.stmAt {H : Hp} {xs : List V} {b : List Stm} (h : DL H xs (encB b)) {i : Nat} {s : Stm} (e : b[i]? = some s) : ∃ x, xs[i]? = some x ∧ D H x (encS s) := h.get (encB_at e)
/-- a path as a tuple -/
theorem D.path {H : Hp} {v : V} {p : List Nat} (h : D H v (encPath p)) : ∃ a, v = .ref a ∧ H a = some (.tup (p.map fun n => V.int (n : Nat))) := by
  obtain ⟨a, xs, rfl, ha, dx⟩ := h.tupE
  refine ⟨a, rfl, ?_⟩
  have key : ∀ (p : List Nat) (xs : List V), DL H xs (p.map encNat) → xs = p.map fun n => V.int (n : Nat) := by
    intro p
    induction p with
    | nil => intro xs h; exact h.nilE
    | cons n r ih =>
      intro xs h
      obtain ⟨x, t, rfl, h1, h2⟩ := h.consE
      have h1' : D H x (.int (n : Nat)) := h1
      rw [h1'.intE, ih t h2]; rfl
  rw [← key p xs dx]; exact ha
theorem D.ofPath {H : Hp} {a : Addr} {p : List Nat} (h : H a = some (.tup (p.map fun n => V.int (n : Nat)))) : D H (.ref a) (encPath p) := by
  have key : ∀ p : List Nat, DL H (p.map fun n => V.int (n : Nat)) (p.map encNat) := by
    intro p
    induction p with
    | nil => exact .nil
    | cons n r ih => exact .cons (.int _) ih
  exact .tup h (key p)
theorem inner_mem {b : List Stm} {k j : Nat} {c : List Stm} (h : inner b k j = some c) : ∃ s, b[k]? = some s ∧ innerS j s = some c ∧ c ∈ inn s := by
  unfold inner at h
  cases e : b[k]? with
  | none => rw [e] at h; cases h
  | some s =>
    rw [e] at h
    refine ⟨s, rfl, h, ?_⟩
    cases s with
    | ite e v y n =>
      have h : (if j = 0 then some y else if j = 1 then some n else none) = some c := h
      by_cases h0 : j = 0
      · rw [if_pos h0] at h; cases h; simp [inn]
      · rw [if_neg h0] at h
        by_cases h1 : j = 1
        · rw [if_pos h1] at h; cases h; simp [inn]
        · rw [if_neg h1] at h; cases h
    | whl e v d =>
      have h : (if j = 0 then some d else none) = some c := h
      by_cases h0 : j = 0
      · rw [if_pos h0] at h; cases h; simp [inn]
      · rw [if_neg h0] at h; cases h
    | msg _ _ _ _ _ => cases h
    | set _ _ _ => cases h
    | ask _ _ => cases h
    | call _ _ => cases h
end K34

/-! enumerate over a tuple; fields. -/
namespace K34
open PySem PySem.Spec PyProof.Rows L2

theorem meets_enumT (l : Addr) (items : Array Value) (n : Nat) (dct : Option Addr) (sl : Array (Option Value)) :
    Meets (Builtin.«enumerate.__new__» ⟨[.type "enumerate", .ref l], []⟩) (fun _ R s => s.heap.get? l = some { cls := .type "tuple", dict := dct, data := .seq items n, slots := sl } ∧
      R (.ok (.ret (.ref (s.heap.push { cls := .type "tuple_iterator", data := .fields #[.ref l, .int 0 0] }).objs.size)))
        { s with heap := (s.heap.push { cls := .type "tuple_iterator", data := .fields #[.ref l, .int 0 0] }).push { cls := .type "enumerate", data := .fields #[.none, .bool false, .ref s.heap.objs.size, rawInt 0, .none, .none] } }) :=
  .of_wp fun prog w A R s h => by
    obtain ⟨hp, g, d, tk, os⟩ := s; obtain ⟨hl, h⟩ := h
    have hsub := sub_enumerate
    have hL : Heap.IsTuple (Shared.heap ⟨hp, g, d, tk, os⟩) l items := ⟨_, hl, rfl, n, rfl⟩
    wp_walk using AutoSeq1.wpAny_loadPart' hl
    refine wpAny_stack_any fun st => wpAny_pure ?_
    split
    · rename_i c _ _ _ _ _
      cases (c == Value.type "enumerate")
      · wp_walk using AutoSeq1.wpAny_loadPart' hl, wpAny_pyIter_tuple hL
        exact ⟨_, rfl, h⟩
      · wp_walk using AutoSeq1.wpAny_loadPart' hl, wpAny_pyIter_tuple hL
        exact ⟨_, rfl, h⟩
    · wp_walk using AutoSeq1.wpAny_loadPart' hl, wpAny_pyIter_tuple hL
      exact ⟨_, rfl, h⟩
theorem call_enumT {prog : Program} {w : World} {A : Around} {E : Value → Shared → Prop} {s : Shared} {l : Addr} {items : Array Value} {Q : Value → Shared → Prop} (hL : s.heap.IsTuple l items)
    (h : ∀ h', IsEnum h' (s.heap.objs.size + 1) s.heap.objs.size 0 .none → h'.IsTupleIter s.heap.objs.size l 0 → (∀ b o, s.heap.get? b = some o → h'.get? b = some o) → Q (.ref (s.heap.objs.size + 1)) { s with heap := h' }) :
    wpAny (model prog w) A (call (.type "enumerate") [.ref l]) Q E s := by
  obtain ⟨⟨c, dct, dt, sl⟩, hl, hc, n, hd⟩ := hL
  cases (show c = .type "tuple" from hc)
  cases (show dt = .seq items n from hd)
  refine callType_new F.called_enumerate (by decide) (F.typeCall_enumerate_1 _) (F.newCall_enumerate_1 _) (fun obj => F.args_object_init_2 obj _) F.entry_enumerate_new (meets_enumT l items n dct sl) ⟨hl, ?_⟩
  have hz : (s.heap.push { cls := .type "tuple_iterator", data := .fields #[.ref l, .int 0 0] }).objs.size = s.heap.objs.size + 1 := Heap.size_push ..
  show _ ∧ _
  rw [hz]
  have he : IsEnum ((s.heap.push { cls := .type "tuple_iterator", data := .fields #[.ref l, .int 0 0] }).push { cls := .type "enumerate", data := .fields #[.none, .bool false, .ref s.heap.objs.size, rawInt 0, .none, .none] }) (s.heap.objs.size + 1) s.heap.objs.size 0 .none := by
    have := Heap.get?_push_size (s.heap.push { cls := .type "tuple_iterator", data := .fields #[.ref l, .int 0 0] }) (o := { cls := .type "enumerate", data := .fields #[.none, .bool false, .ref s.heap.objs.size, rawInt 0, .none, .none] }) rfl
    rw [hz] at this; exact this
  exact ⟨⟨_, he, rfl⟩, h _ he ⟨_, Heap.get?_push_of_some _ (Heap.get?_push_size _ rfl), rfl, rfl⟩ fun b o x => Heap.get?_push_of_some _ (Heap.get?_push_of_some _ x)⟩
def ItEn (K : PySem.W.Frag) (a : Addr) : It :=
  ⟨fun i H => ∃ (xs : List V) (x : V), SqT K H a xs ∧ xs[i]? = some x, fun i H v H' => ∃ T x, v = .ref T ∧ H T = none ∧ H' = upd H T (.tup [.int (i : Nat), x]) ∧ ∀ xs, SqT K H a xs → xs[i]? = some x, fun i H => ∃ xs : List V, SqT K H a xs ∧ xs.length ≤ i⟩
theorem turn_enumT {P : Program} {w : World} {K : PySem.W.Frag} {elts : List Expr} {kk : Nat} {tpos : Pos} (a e it : Addr) (hai : a ≠ it) (hae : a ≠ e) :
    Turn P w K (.Tuple elts kk tpos) (ItEn K a) [e, it] e (fun i h => (∃ old, IsEnum h e it ((i : Nat) : Int) old) ∧ h.IsTupleIter it a i ∧ e ≠ it) where
  mem := by simp
  obj := fun i h st b hb => by
    obtain ⟨⟨old, he⟩, ⟨o, ho, hc, hd⟩, _⟩ := st
    have e' : b = e ∨ b = it := by simpa using hb
    rcases e' with z | z
    · rw [z]; exact ⟨_, he, fun v q => nomatch q⟩
    · rw [z]; exact ⟨o, ho, fun v q => by rw [hd] at q; cases q⟩
  keep := fun i h h' st k => let ⟨⟨old, he⟩, hi, hne⟩ := st; ⟨⟨old, k e (by simp) _ he⟩, hi.at fun o q => k it (by simp) o q, hne⟩
  item := by
    intro X hP hw hK hc i pins s σ H E I hf st hg
    subst hP hw hK
    obtain ⟨⟨old, he⟩, hit, hne⟩ := st
    obtain ⟨xs, x, hq, hx⟩ := hg
    obtain ⟨its, rv, p, hz⟩ := I.tuple hq
    obtain ⟨u, hu, ru⟩ := rv.get hx
    have hel : e < s.heap.objs.size := Heap.lt_size he
    have hil : it < s.heap.objs.size := by obtain ⟨_, q, _⟩ := hit; exact Heap.lt_size q
    have Dr : Draws X.prog X.w X.A.in1 it _ _ _ _ := Draws.tuple (by rw [Around.in1_handled]; exact I.ok.hd hc) it a hai its.toArray
    refine wpAny_pyNext_enum_itemD Dr he ⟨hit, p⟩ (by have := (List.getElem?_eq_some_iff.mp hu).1; simpa using this) hne (by simp [hne, Ne.symm hae]) fun x' h' tk hPx ho hst hT hsz hk => ?_
    obtain rfl : x' = u := by
      have hPx : its.toArray[i]? = some x' := hPx
      rw [List.getElem?_toArray, hu] at hPx
      exact (Option.some.inj hPx).symm
    obtain ⟨hit', _⟩ := hst
    refine ⟨_, rfl, wpAny_letOwnedTupleGo_enum (s := { s with heap := h', toks := tk + 1 }) ho fun h'' he' sb => ?_⟩
    have hT2 : h''.get? s.heap.objs.size = some { cls := .type "tuple", data := .seq #[.int i tk, x'] } := (sb.2 _ (Nat.ne_of_gt hel)).trans hT
    have new : ObjOk X.prog X.w (upd H s.heap.objs.size (.tup [.int (i : Nat), x])) h'' s.heap.objs.size (.tup [.int (i : Nat), x]) :=
      ⟨by show 2 ≤ sizeLine; decide, [.int i tk, x'], .cons ⟨_, rfl⟩ (.cons ru .nil), ⟨_, hT2, rfl, _, rfl⟩⟩
    have I1 : Inv X pins σ (upd H s.heap.objs.size (.tup [.int (i : Nat), x])) { s with heap := h'', toks := tk + 1 } :=
      I.turnedNew (ch := [e, it]) (fun b ob hb q => (sb.2 b (fun z => hb (by simp [z]))).trans (hk b ob (fun z => hb (by simp [z])) (fun z => hb (by simp [z])) q)) hf (Nat.le_refl _) new
    refine ⟨.ref s.heap.objs.size, _, I1, rfl, ⟨_, x, rfl, I.hok.fresh (Nat.le_refl _), rfl, fun ys hy => by rw [I.tuple_inj hy hq]; exact hx⟩, ⟨⟨x', ?_⟩, hit'.at fun o q => (sb.2 it (Ne.symm hne)).trans q, hne⟩, fun b hb => ?_⟩
    · have e1 : ((i + 1 : Nat) : Int) = (i : Int) + 1 := by omega
      rw [e1]; exact he'
    · have hb' : b < s.heap.objs.size := by
        have e' : b = e ∨ b = it := by simpa using hb
        rcases e' with z | z
        · rw [z]; exact hel
        · rw [z]; exact hil
      rw [upd_ne (Nat.ne_of_lt hb')]
      exact (hf b hb).1
  done := by
    intro X hP hw hK hc i pins s σ H E I hf st hg
    subst hP hw hK
    obtain ⟨⟨old, he⟩, hit, hne⟩ := st
    obtain ⟨xs, hq, hx⟩ := hg
    obtain ⟨its, rv, p, hz⟩ := I.tuple hq
    obtain ⟨f0, f1, f2, f3, f4, f5⟩ := hf it (by simp)
    have hl := rv.length
    have Dr : Draws X.prog X.w X.A.in1 it [it, a] i (fun _ _ => True) (fun j h => (h.IsTupleIter it a j ∧ h.IsTuple a its.toArray) ∧ j = i) :=
      { live := fun _ _ st => let ⟨o, ho, _⟩ := st.1.1; ⟨o, ho⟩
        frame := fun _ _ _ st hk => ⟨⟨st.1.1.at fun o e => hk it (by simp) o e, st.1.2.at fun o e => hk a (by simp) o e⟩, st.2⟩
        item := fun j s Q E hj st hQ => absurd st.2 (Nat.ne_of_lt hj)
        done := fun s Q E st hE => wpAny_nextOf_tuple_end (by rw [Around.in1_handled]; exact I.ok.hd hc) st.1.1 st.1.2 (by simp; omega) hE }
    exact wpAny_pyNext_enum_endD Dr he ⟨⟨hit, p⟩, rfl⟩ fun h' eb => ⟨rfl, I.turned (t' := s.toks) (fun b o hb q => eb b o hb q) f0 f1 f3 f4 f5⟩
  self := fun A i s Q E st h => let ⟨⟨_, he⟩, _⟩ := st; wpAny_pyIter_enum he h
def iEnT (K : PySem.W.Frag) (ta : TA) : TI := fun σ H R => ta σ H fun vs H1 => ∃ a xs, vs = [.ref a] ∧ SqT K H1 a xs ∧ R (ItEn K a) H1
theorem pi_enumT {X : Cx} {e : Expr} {ta : TA} {p pos tpos : Pos} {elts : List Expr} {kk : Nat} (hg : Gl X "enumerate") (hm : X.mg "enumerate" = none) (ha : PA X [e] ta) (hs : starEach [e] X.env = [(false, eval e X.env)] := by rfl) :
    PI X (.Tuple elts kk tpos) (.Call (.Name "enumerate" p) [e] [] pos) (iEnT X.K ta) := by
  refine ⟨fun pins s σ H R I h => ?_⟩
  refine Call_ (ld_blt I hg hm boot_enumerate (PyProof.Rows.callWith_type1 (thn (ha.run pos pins s σ H _ I h) fun us s1 ⟨vs, H1, I1, r1, q1⟩ => ?_) hs rfl))
  obtain ⟨a, xs, ex, hq, q⟩ := q1
  subst ex
  cases r1 with
  | cons r rr =>
    cases rr
    cases r
    obtain ⟨its, rv, p', hz⟩ := I1.tuple hq
    have hal : a < s1.heap.objs.size := by obtain ⟨_, z, _⟩ := p'; exact Heap.lt_size z
    refine call_enumT p' fun h' he hit hk => wpAny_pyIter_enum he ?_
    have I2 : Inv X pins σ H1 { s1 with heap := h' } := I1.kept (t' := s1.toks) hk
    refine ⟨s1.heap.objs.size + 1, [s1.heap.objs.size + 1, s1.heap.objs.size], _, _, H1, rfl, I2, turn_enumT a (s1.heap.objs.size + 1) s1.heap.objs.size (Nat.ne_of_lt hal) (Nat.ne_of_lt (Nat.lt_succ_of_lt hal)), ⟨⟨.none, he⟩, hit, Nat.succ_ne_self _⟩, fun b hb => ?_, q⟩
    have e' : b = s1.heap.objs.size + 1 ∨ b = s1.heap.objs.size := by simpa using hb
    have hle : s1.heap.objs.size ≤ b := by
      rcases e' with z | z
      · rw [z]; exact Nat.le_add_right _ _
      · rw [z]; exact Nat.le_refl _
    exact I1.fpOk hle (I1.hok.fresh hle)
theorem walk_enumT {K : PySem.W.Frag} {a : Addr} {xs : List V} : Walk (ItEn K a) xs.length (fun H => SqT K H a xs) (YPair (fun i => some (.int (i : Nat))) (fun i => xs[i]?)) := by
  refine ⟨fun i _ hi q => ⟨xs, xs[i], q, by simp [hi]⟩, fun _ q => ⟨xs, q, Nat.le_refl _⟩, fun i H v H' _ q y => ?_⟩
  obtain ⟨T, x, h1, h2, h3, h4⟩ := y
  exact ⟨T, .int (i : Nat), x, h1, h2, h3, rfl, h4 xs q⟩
section
variable {K : PySem.W.Frag} {σ : L2.St} {H : Hp} {R : It → Hp → Prop} {ta : TA} {a C dx : Addr} {xs : List V} {D : Ends} {te tv : TE} {f : Str} {fs : List (Str × V)} {y : V}
def KEn (K : PySem.W.Frag) (R : It → Hp → Prop) : List V → Hp → Prop := fun vs H1 => ∃ a xs, vs = [.ref a] ∧ SqT K H1 a xs ∧ R (ItEn K a) H1
theorem g_iEn (q : ta σ H (KEn K R)) : iEnT K ta σ H R := q
theorem g_kEn (h : H a = some (.tup xs)) (q : R (ItEn K a) H) : KEn K R [.ref a] H := ⟨a, xs, rfl, SqT.of h, q⟩
def KFs (K : PySem.W.Frag) (f : Str) (y : V) (N : Hp → Prop) : V → Hp → Prop := fun x H2 => ∃ a C dx fs, x = .ref a ∧ H2 a = some (.ins C dx fs) ∧ Cls K C ∧ NoAttr K C f ∧ fs.length < 1000 ∧ N (upd H2 a (.ins C dx (putF f y fs)))
theorem g_fset (q : tv σ H fun y H1 => te σ H1 (KFs K f y (D.nx σ))) : sFld K te tv f D σ H := q
theorem g_fsetI {N : Hp → Prop} (h : H a = some (.ins C dx fs)) (c : Cls K C) (n : NoAttr K C f) (l : fs.length < 1000) (q : N (upd H a (.ins C dx (putF f y fs)))) : KFs K f y N (.ref a) H := ⟨a, C, dx, fs, rfl, h, c, n, l, q⟩
theorem g_tupOf {Q : VK} {p : Addr} {ys : List V} (h : H p = some (.lst ys)) (q : ∀ l H2, Frm [] H H2 → H2 l = some (.tup ys) → Q (.ref l) H2) : rTupOf K [.ref p] H Q := g_tupL h q
end
end K34

/-! The two lists of a layout. -/
namespace K34
open PySem PySem.Spec PyProof.Rows L2
structure LyI (H : Hp) (ls lf : Addr) (xs ys : List V) (R : List Row) (H' : Hp) : Prop where
  fr : Frm [ls, lf] H H'
  ex : ∃ us vs, H' ls = some (.lst (xs ++ us)) ∧ H' lf = some (.lst (ys ++ vs)) ∧ DL H' us (R.map fun r => encF r.1) ∧ DL H' vs (R.map fun r => PyData.tuple (r.2.map encNat))
section
variable {H H' H1 H2 : Hp} {ls lf : Addr} {xs ys us vs : List V} {R R2 : List Row} {x y : V} {r : Row}
theorem LyI.start (h1 : H ls = some (.lst xs)) (h2 : H lf = some (.lst ys)) : LyI H ls lf xs ys [] H := ⟨Frm.refl _ _, [], [], by rw [List.append_nil]; exact h1, by rw [List.append_nil]; exact h2, .nil, .nil⟩
theorem LyI.frm (h : LyI H ls lf xs ys R H') (f : Frm [] H' H2) : LyI H ls lf xs ys R H2 := by
  obtain ⟨us, vs, e1, e2, d1, d2⟩ := h.ex
  exact ⟨h.fr.trans f.any, us, vs, f.get0 e1, f.get0 e2, d1.frm f, d2.frm f⟩
theorem LyI.put (h : LyI H ls lf xs ys R H') (n : ls ≠ lf) (e1 : H' ls = some (.lst us)) (e2 : H' lf = some (.lst vs)) (f : Frm [] (upd H' ls (.lst (us ++ [x]))) H1) (dx : D H' x (encF r.1)) (dy : D H1 y (.tuple (r.2.map encNat))) :
    LyI H ls lf xs ys (R ++ [r]) (upd H1 lf (.lst (vs ++ [y]))) := by
  obtain ⟨us', vs', e1', e2', d1, d2⟩ := h.ex
  cases e1'.symm.trans e1
  cases e2'.symm.trans e2
  have f1 : Frm [ls, lf] H' (upd H' ls (.lst (xs ++ us' ++ [x]))) := Frm.mut List.mem_cons_self e1 nt_lst
  have e2f : H1 lf = some (.lst (ys ++ vs')) := f.get0 (by rw [upd_ne (Ne.symm n)]; exact e2)
  have f2 : Frm [ls, lf] H1 (upd H1 lf (.lst (ys ++ vs' ++ [y]))) := Frm.mut (by simp) e2f nt_lst
  have fa := (f1.trans f.any).trans f2
  refine ⟨h.fr.trans fa, us' ++ [x], vs' ++ [y], ?_, ?_, ?_, ?_⟩
  · rw [upd_ne n, f.get0 upd_same, List.append_assoc]
  · rw [upd_same, List.append_assoc]
  · rw [List.map_append]
    exact (d1.frm fa).app (.one (dx.frm fa))
  · rw [List.map_append]
    exact (d2.frm fa).app (.one (dy.frm f2))
theorem LyI.more (h : LyI H ls lf xs ys R H') (e1 : H' ls = some (.lst us)) (e2 : H' lf = some (.lst vs)) (h2 : LyI H' ls lf us vs R2 H2) : LyI H ls lf xs ys (R ++ R2) H2 := by
  obtain ⟨us', vs', e1', e2', d1, d2⟩ := h.ex
  cases e1'.symm.trans e1
  cases e2'.symm.trans e2
  obtain ⟨u2, v2, e3, e4, d3, d4⟩ := h2.ex
  refine ⟨h.fr.trans h2.fr, us' ++ u2, vs' ++ v2, by rw [e3, List.append_assoc], by rw [e4, List.append_assoc], ?_, ?_⟩
  · rw [List.map_append]; exact (d1.frm h2.fr).app d3
  · rw [List.map_append]; exact (d2.frm h2.fr).app d4
theorem LyI.get (h : LyI H ls lf xs ys R H') : ∃ us vs, H' ls = some (.lst us) ∧ H' lf = some (.lst vs) ∧ us.length = xs.length + R.length ∧ vs.length = ys.length + R.length := by
  obtain ⟨us', vs', e1', e2', d1, d2⟩ := h.ex
  exact ⟨_, _, e1', e2', by rw [List.length_append, d1.len, List.length_map], by rw [List.length_append, d2.len, List.length_map]⟩
end
theorem row_snoc (p g : Nat) (b : List Stm) (i : Nat) (s : Stm) (h : b[i]? = some s) :
    rowB p (if 0 < szB (b.drop (i + 1)) then p + szB (b.take (i + 1)) else g) (b.take (i + 1)) = rowB p (if 0 < szB (b.drop i) then p + szB (b.take i) else g) (b.take i) ++ rowS (p + szB (b.take i)) (if 0 < szB (b.drop (i + 1)) then p + szB (b.take i) + s.sz else g) s := by
  have hi := (List.getElem?_eq_some_iff.mp h).1
  have e : b.drop i = s :: b.drop (i + 1) := by
    rw [List.drop_eq_getElem_cons hi]
    congr 1
    exact (List.getElem?_eq_some_iff.mp h).2
  have z1 : 0 < szB (b.drop i) := by rw [e]; exact szB_pos
  have z2 : 0 < szB [s] := szB_pos
  rw [take_snoc h, rowB_append, if_pos z1, if_pos z2, szB_snoc, Nat.add_assoc]
  congr 1
  simp [rowB, szB]
theorem drop_pos {b : List Stm} {i : Nat} : (0 < szB (b.drop (i + 1))) ↔ i + 1 < b.length := by
  constructor
  · intro h
    cases Nat.lt_or_ge (i + 1) b.length with
    | inl h => exact h
    | inr h2 => rw [List.drop_eq_nil_of_le h2] at h; exact absurd h (Nat.lt_irrefl _)
  · intro h
    rw [List.drop_eq_getElem_cons h]
    exact szB_pos
theorem tru_tup {K : PySem.W.Frag} {H : Hp} {v : V} {b : List Stm} (h : D H v (encBT b)) : TruV K v H (decide (0 < szB b)) := by
  obtain ⟨a, xs, rfl, ha, dx⟩ := h.tupE
  refine .inr (.inl ⟨xs, SqT.of ha, ?_⟩)
  have := dx.encLen
  cases b with
  | nil =>
    cases xs with
    | nil => rfl
    | cons => cases this
  | cons s r =>
    cases xs with
    | nil => cases this
    | cons x t => exact decide_eq_true szB_pos
end K34

/-! The law's tape. -/
namespace K34
open PySem PySem.Spec PyProof.Rows L2
abbrev kS (x : Str) : Key := Sum.inr x
theorem putK_same {kvs : List (Key × V)} {k : Key} {v u : V} (h : valV kvs k = some u) : (putK kvs k v).length = kvs.length := by
  have := valV_any k kvs
  unfold putK
  rw [this, h]
  show (List.map _ kvs).length = _
  rw [List.length_map]
theorem kn1 : ¬ (kS "at" = kS "cells") ∧ ¬ (kS "left" = kS "cells") ∧ ¬ (kS "seed" = kS "cells") ∧ ¬ (kS "salt" = kS "cells") := by decide +kernel
theorem kn2 : ¬ (kS "cells" = kS "at") ∧ ¬ (kS "left" = kS "at") ∧ ¬ (kS "seed" = kS "at") ∧ ¬ (kS "salt" = kS "at") := by decide +kernel
theorem kn3 : ¬ (kS "cells" = kS "left") ∧ ¬ (kS "at" = kS "left") ∧ ¬ (kS "seed" = kS "left") ∧ ¬ (kS "salt" = kS "left") := by decide +kernel
theorem kn4 : ¬ (kS "cells" = kS "seed") ∧ ¬ (kS "at" = kS "seed") ∧ ¬ (kS "left" = kS "seed") ∧ ¬ (kS "salt" = kS "seed") := by decide +kernel
theorem kn5 : ¬ (kS "cells" = kS "salt") ∧ ¬ (kS "at" = kS "salt") ∧ ¬ (kS "left" = kS "salt") ∧ ¬ (kS "seed" = kS "salt") := by decide +kernel
structure TapeV (kvs : List (Key × V)) (c : Addr) (at_ left seed salt : Int) : Prop where
  len : kvs.length ≤ 10
  cells : valV kvs (kS "cells") = some (.ref c)
  at1 : valV kvs (kS "at") = some (.int at_)
  left1 : valV kvs (kS "left") = some (.int left)
  seed1 : valV kvs (kS "seed") = some (.int seed)
  salt1 : valV kvs (kS "salt") = some (.int salt)
  at0 : 0 ≤ at_
  left0 : 0 ≤ left
theorem TapeV.putAt {kvs : List (Key × V)} {c : Addr} {a l s t : Int} (h : TapeV kvs c a l s t) {a' : Int} (p : 0 ≤ a') : TapeV (putK kvs (kS "at") (.int a')) c a' l s t := by
  obtain ⟨h0, h1, h2, h3, h4, h5, h6, h7⟩ := h
  obtain ⟨n1, n2, n3, n4⟩ := kn2
  exact ⟨by rw [putK_same h2]; exact h0, by rw [valV_put, if_neg n1]; exact h1, by rw [valV_put, if_pos rfl], by rw [valV_put, if_neg n2]; exact h3, by rw [valV_put, if_neg n3]; exact h4, by rw [valV_put, if_neg n4]; exact h5, p, h7⟩
theorem TapeV.putLeft {kvs : List (Key × V)} {c : Addr} {a l s t : Int} (h : TapeV kvs c a l s t) {l' : Int} (p : 0 ≤ l') : TapeV (putK kvs (kS "left") (.int l')) c a l' s t := by
  obtain ⟨h0, h1, h2, h3, h4, h5, h6, h7⟩ := h
  obtain ⟨n1, n2, n3, n4⟩ := kn3
  exact ⟨by rw [putK_same h3]; exact h0, by rw [valV_put, if_neg n1]; exact h1, by rw [valV_put, if_neg n2]; exact h2, by rw [valV_put, if_pos rfl], by rw [valV_put, if_neg n3]; exact h4, by rw [valV_put, if_neg n4]; exact h5, h6, p⟩
theorem TapeV.putSalt {kvs : List (Key × V)} {c : Addr} {a l s t : Int} (h : TapeV kvs c a l s t) (t' : Int) : TapeV (putK kvs (kS "salt") (.int t')) c a l s t' := by
  obtain ⟨h0, h1, h2, h3, h4, h5, h6, h7⟩ := h
  obtain ⟨n1, n2, n3, n4⟩ := kn5
  exact ⟨by rw [putK_same h5]; exact h0, by rw [valV_put, if_neg n1]; exact h1, by rw [valV_put, if_neg n2]; exact h2, by rw [valV_put, if_neg n3]; exact h3, by rw [valV_put, if_neg n4]; exact h4, by rw [valV_put, if_pos rfl], h6, h7⟩
theorem TapeV.make (c : Addr) (s : Int) : TapeV (mergeK [] [(kS "cells", .ref c), (kS "at", .int 0), (kS "left", .int 0), (kS "seed", .int s), (kS "salt", .int 0)]) c 0 0 s 0 := by
  obtain ⟨a1, a2, a3, a4⟩ := kn1
  obtain ⟨b1, b2, b3, b4⟩ := kn2
  obtain ⟨c1, c2, c3, c4⟩ := kn3
  obtain ⟨d1, d2, d3, d4⟩ := kn4
  obtain ⟨e1, e2, e3, e4⟩ := kn5
  refine ⟨Nat.le_trans (length_mergeK _ _) (show 5 ≤ 10 by decide), ?_, ?_, ?_, ?_, ?_, Int.le_refl _, Int.le_refl _⟩ <;> simp only [mergeK, List.foldl_cons, List.foldl_nil, valV_put, a1, a2, a3, a4, b1, b2, b3, b4, c1, c2, c3, c4, d1, d2, d3, d4, e1, e2, e3, e4, if_false, if_true]
/-- the tape at d, its cells at c -/
def Tape (H : Hp) (d c : Addr) : Prop := ∃ kvs a l s t, ∃ cs : List Int, H d = some (.dK kvs) ∧ TapeV kvs c a l s t ∧ H c = some (.lst (cs.map V.int)) ∧ (∀ x ∈ cs, 0 ≤ x) ∧ cs.length ≤ 100000
section
variable {S : List Addr} {H H' : Hp} {d c r : Addr} {o : HO}
theorem Tape.frm (h : Tape H d c) (f : Frm [] H H') : Tape H' d c := by
  obtain ⟨kvs, a, l, s, t, cs, h1, h2, h3, h4⟩ := h
  exact ⟨kvs, a, l, s, t, cs, f.get0 h1, h2, f.get0 h3, h4⟩
theorem Tape.frmS (h : Tape H d c) (f : Frm S H H') (n1 : d ∉ S) (n2 : c ∉ S) : Tape H' d c := by
  obtain ⟨kvs, a, l, s, t, cs, h1, h2, h3, h4⟩ := h
  exact ⟨kvs, a, l, s, t, cs, f.keep _ _ n1 h1, h2, f.keep _ _ n2 h3, h4⟩
theorem Tape.upd (h : Tape H d c) (n1 : r ≠ d) (n2 : r ≠ c) : Tape (upd H r o) d c := by
  obtain ⟨kvs, a, l, s, t, cs, h1, h2, h3, h4⟩ := h
  exact ⟨kvs, a, l, s, t, cs, by rw [upd_ne (Ne.symm n1)]; exact h1, h2, by rw [upd_ne (Ne.symm n2)]; exact h3, h4⟩
theorem Tape.dK (h : Tape H d c) : ∃ kvs, H d = some (.dK kvs) := by
  obtain ⟨kvs, a, l, s, t, cs, h1, _⟩ := h
  exact ⟨kvs, h1⟩
theorem Tape.ne (h : Tape H d c) (n : H r = none) : r ≠ d ∧ r ≠ c := by
  obtain ⟨kvs, a, l, s, t, cs, h1, h2, h3, h4⟩ := h
  exact ⟨fun e => (by rw [e, h1] at n; cases n), fun e => (by rw [e, h3] at n; cases n)⟩
end
/-- new objects of one's own beside the tape: known data stay -/
theorem Frm.newT {H H' : Hp} {d r : Addr} {o : HO} (f : Frm [d] H H') (n : H r = none) : Frm [d] H (upd H' r o) := f.loc n
end K34

/-! The trees that the law draws, with parts and calls. -/
namespace K34
open PySem PySem.Spec PyProof.Rows L2
abbrev Part := Str × List Str × List Stm
def encP (q : Part) : PyData := .tuple [.str q.1, .tuple (q.2.1.map .str), encBT q.2.2]
def gF (Es : List Str) (PS : List Part) : FS → Prop
  | .msg f t l v x => f ∈ Es ∧ t ∈ Es ∧ strOk l = true ∧ okV v ∧ strOk x = true
  | .set e x v => e ∈ Es ∧ strOk x = true ∧ okV v
  | .ask e x => e ∈ Es ∧ strOk x = true
  | .ite e v => e ∈ Es ∧ okV v
  | .whl e v => e ∈ Es ∧ okV v
  | .call p cs => (∃ q ∈ PS, q.1 = p ∧ q.2.1.length = cs.length) ∧ ∀ c ∈ cs, c ∈ Es
def gB (Es : List Str) (PS : List Part) (b : List Stm) : Prop := ∀ s ∈ allB b, gF Es PS s.flat
theorem gB.at_ {Es : List Str} {PS : List Part} {b : List Stm} (g : gB Es PS b) {s : Stm} (h : s ∈ b) : gF Es PS s.flat := g s (all_mem h s (self_all s))
theorem gB.inn {Es : List Str} {PS : List Part} {b : List Stm} (g : gB Es PS b) {s : Stm} (h : s ∈ b) {c : List Stm} (hc : c ∈ inn s) : gB Es PS c := fun t ht => g t (all_mem h t (inn_mem hc t ht))
theorem gB.snoc {Es : List Str} {PS : List Part} {b : List Stm} (g : gB Es PS b) {s : Stm} (h : gB Es PS [s]) : gB Es PS (b ++ [s]) := fun t ht => by
  rw [allB_append, List.mem_append] at ht
  exact ht.elim (g t) (h t)
theorem gB.leaf {Es : List Str} {PS : List Part} {s : Stm} (hi : K34.inn s = []) (h : gF Es PS s.flat) : gB Es PS [s] := fun t ht => by
  rw [allB, all_inn, hi] at ht
  simp [allB] at ht
  subst ht; exact h
theorem gB.node {Es : List Str} {PS : List Part} {s : Stm} (h : gF Es PS s.flat) (hi : ∀ c ∈ K34.inn s, gB Es PS c) : gB Es PS [s] := fun t ht => by
  rw [allB, all_inn] at ht
  simp only [allB, List.append_nil] at ht
  rcases List.mem_cons.mp ht with rfl | ht
  · exact h
  · obtain ⟨c, hc, ht⟩ := List.mem_flatMap.mp ht
    exact hi c hc t ht
def mS : Nat → Nat
  | 0 => 1
  | n + 1 => 1 + 4 * mS n
theorem mS_pos (n : Nat) : 1 ≤ mS n := by cases n <;> simp [mS]
/-! layable -/
def lyF : FS → Prop
  | .msg f t l v x => strOk f = true ∧ strOk t = true ∧ strOk l = true ∧ okV v ∧ strOk x = true
  | .set e x v => strOk e = true ∧ strOk x = true ∧ okV v
  | .ask e x => strOk e = true ∧ strOk x = true
  | .ite e v => strOk e = true ∧ okV v
  | .whl e v => strOk e = true ∧ okV v
  | .call p cs => strOk p = true ∧ ∀ c ∈ cs, strOk c = true
theorem gF.ly {Es : List Str} {PS : List Part} {f : FS} (h : gF Es PS f) (he : ∀ e ∈ Es, strOk e = true) (hp : ∀ q ∈ PS, strOk q.1 = true) : lyF f := by
  cases f with
  | msg f t l v x => exact ⟨he _ h.1, he _ h.2.1, h.2.2⟩
  | set e x v => exact ⟨he _ h.1, h.2⟩
  | ask e x => exact ⟨he _ h.1, h.2⟩
  | ite e v => exact ⟨he _ h.1, h.2⟩
  | whl e v => exact ⟨he _ h.1, h.2⟩
  | call p cs =>
    obtain ⟨⟨q, hq, rfl, _⟩, hc⟩ := h
    exact ⟨hp q hq, fun c hc' => he c (hc c hc')⟩
theorem lay_strs : ∀ l : List Str, (∀ c ∈ l, strOk c = true) → PyData.canLayAll0 (l.map PyData.str) = true
  | [], _ => by simp [PyData.canLayAll0]
  | c :: r, h => by
    have h1 : PyData.strOk c = true := h c List.mem_cons_self
    simp only [List.map_cons, PyData.canLayAll0, PyData.canLay0, h1, lay_strs r fun d hd => h d (List.mem_cons_of_mem _ hd), Bool.and_self]
theorem depthStrs : ∀ l : List Str, PyData.depthAll (l.map PyData.str) ≤ 1
  | [] => by simp [PyData.depthAll]
  | c :: r => by
    have := depthStrs r
    simp only [List.map_cons, PyData.depthAll, PyData.depth]
    omega
mutual
theorem layS : ∀ s : Stm, (∀ t ∈ s.all, lyF t.flat) → (encS s).canLay0 = true
  | .msg f t l v x, h => by
    obtain ⟨h1, h2, h3, h4, h5⟩ := h _ (self_all _)
    have h1 : PyData.strOk f = true := h1
    have h2 : PyData.strOk t = true := h2
    have h3 : PyData.strOk l = true := h3
    have h5 : PyData.strOk x = true := h5
    simp only [encS, PyData.canLay0, PyData.canLayAll0, h1, h2, h3, h5, layV v h4.1]; decide +kernel
  | .set e x v, h => by
    obtain ⟨h1, h2, h3⟩ := h _ (self_all _)
    have h1 : PyData.strOk e = true := h1
    have h2 : PyData.strOk x = true := h2
    simp only [encS, PyData.canLay0, PyData.canLayAll0, h1, h2, layV v h3.1]; decide +kernel
  | .ask e x, h => by
    obtain ⟨h1, h2⟩ := h _ (self_all _)
    have h1 : PyData.strOk e = true := h1
    have h2 : PyData.strOk x = true := h2
    simp only [encS, PyData.canLay0, PyData.canLayAll0, h1, h2]; decide +kernel
  | .ite e v y n, h => by
    obtain ⟨h1, h2⟩ := h _ (self_all _)
    have h1 : PyData.strOk e = true := h1
    have hy := layB y fun t ht => h t (inn_mem (s := .ite e v y n) (c := y) (by simp [inn]) t ht)
    have hn := layB n fun t ht => h t (inn_mem (s := .ite e v y n) (c := n) (by simp [inn]) t ht)
    simp only [encS, PyData.canLay0, PyData.canLayAll0, h1, hy, hn, layV v h2.1]; decide +kernel
  | .whl e v b, h => by
    obtain ⟨h1, h2⟩ := h _ (self_all _)
    have h1 : PyData.strOk e = true := h1
    have hy := layB b fun t ht => h t (inn_mem (s := .whl e v b) (c := b) (by simp [inn]) t ht)
    simp only [encS, PyData.canLay0, PyData.canLayAll0, h1, hy, layV v h2.1]; decide +kernel
  | .call p cs, h => by
    obtain ⟨h1, h2⟩ := h _ (self_all _)
    have h1 : PyData.strOk p = true := h1
    simp only [encS, PyData.canLay0, PyData.canLayAll0, h1, lay_strs cs h2]; decide +kernel
theorem layB : ∀ b : List Stm, (∀ t ∈ allB b, lyF t.flat) → PyData.canLayAll0 (encB b) = true
  | [], _ => by simp [encB, PyData.canLayAll0]
  | s :: r, h => by
    have h1 := layS s fun t ht => h t (by rw [allB, List.mem_append]; exact .inl ht)
    have h2 := layB r fun t ht => h t (by rw [allB, List.mem_append]; exact .inr ht)
    simp only [encB, PyData.canLayAll0, h1, h2, Bool.and_self]
end
mutual
theorem depS : ∀ s : Stm, (∀ t ∈ s.all, lyF t.flat) → (encS s).depth ≤ 2 * s.dp + 10
  | .msg f t l v x, h => by
    obtain ⟨h1, h2, h3, h4, h5⟩ := h _ (self_all _)
    have := h4.2
    simp only [encS, PyData.depth, PyData.depthAll, depV, Stm.dp]; omega
  | .set e x v, h => by
    obtain ⟨h1, h2, h3⟩ := h _ (self_all _)
    have := h3.2
    simp only [encS, PyData.depth, PyData.depthAll, depV, Stm.dp]; omega
  | .ask e x, h => by
    simp only [encS, PyData.depth, PyData.depthAll, Stm.dp]; omega
  | .ite e v y n, h => by
    obtain ⟨h1, h2⟩ := h _ (self_all _)
    have := h2.2
    have hy := depB y fun t ht => h t (inn_mem (s := .ite e v y n) (c := y) (by simp [inn]) t ht)
    have hn := depB n fun t ht => h t (inn_mem (s := .ite e v y n) (c := n) (by simp [inn]) t ht)
    simp only [encS, PyData.depth, PyData.depthAll, depV, Stm.dp]; omega
  | .whl e v b, h => by
    obtain ⟨h1, h2⟩ := h _ (self_all _)
    have := h2.2
    have hy := depB b fun t ht => h t (inn_mem (s := .whl e v b) (c := b) (by simp [inn]) t ht)
    simp only [encS, PyData.depth, PyData.depthAll, depV, Stm.dp]; omega
  | .call p cs, h => by
    have := depthStrs cs
    simp only [encS, PyData.depth, PyData.depthAll, Stm.dp]; omega
theorem depB : ∀ b : List Stm, (∀ t ∈ allB b, lyF t.flat) → PyData.depthAll (encB b) ≤ 2 * dpB b + 10
  | [], _ => by simp [encB, PyData.depthAll]
  | s :: r, h => by
    have h1 := depS s fun t ht => h t (by rw [allB, List.mem_append]; exact .inl ht)
    have h2 := depB r fun t ht => h t (by rw [allB, List.mem_append]; exact .inr ht)
    simp only [encB, PyData.depthAll, dpB]; omega
end
def lyP (q : Part) : Prop := strOk q.1 = true ∧ (∀ c ∈ q.2.1, strOk c = true) ∧ (∀ t ∈ allB q.2.2, lyF t.flat) ∧ dpB q.2.2 ≤ 8
theorem layP {q : Part} (h : lyP q) : (encP q).canLay0 = true ∧ (encP q).depth ≤ 30 := by
  obtain ⟨h1, h2, h3, h4⟩ := h
  have h1 : PyData.strOk q.1 = true := h1
  have d := depB q.2.2 h3
  have d2 := depthStrs q.2.1
  constructor
  · simp only [encP, encBT, PyData.canLay0, PyData.canLayAll0, h1, lay_strs _ h2, layB _ h3, Bool.and_self]
  · simp only [encP, encBT, PyData.depth, PyData.depthAll]; omega
theorem layPs : ∀ PS : List Part, (∀ q ∈ PS, lyP q) → PyData.canLayAll0 (PS.map encP) = true ∧ PyData.depthAll (PS.map encP) ≤ 30
  | [], _ => by simp [PyData.canLayAll0, PyData.depthAll]
  | q :: r, h => by
    have h1 := layP (h q List.mem_cons_self)
    have h2 := layPs r fun x hx => h x (List.mem_cons_of_mem _ hx)
    constructor
    · simp only [List.map_cons, PyData.canLayAll0, h1.1, h2.1, Bool.and_self]
    · simp only [List.map_cons, PyData.depthAll]; omega
theorem shList {ds : List PyData} (h1 : PyData.canLayAll0 ds = true) (h2 : PyData.depthAll ds ≤ 60) : SeqAt.shaped (.list ds) = true := by
  unfold SeqAt.shaped
  rw [Bool.and_eq_true]
  refine ⟨?_, decide_eq_true ?_⟩
  · simp only [PyData.canLay0, h1]
  · simp only [PyData.depth]; omega
theorem shNil : SeqAt.shaped (.list []) = true := shList (by simp [PyData.canLayAll0]) (by simp [PyData.depthAll])
theorem eqvNil (ds : List PyData) : PyData.eqv (.list ds) (.list []) = ds.isEmpty := by
  cases ds with
  | nil => simp [PyData.eqv, PyData.eqvAll]
  | cons d r => simp [PyData.eqv, PyData.eqvAll]
theorem g_neNil {K : PySem.W.Frag} {H : Hp} {Q : VK} {a b : Addr} {xs : List V} {ds : List PyData} (ha : H a = some (.lst xs)) (hb : H b = some (.lst [])) (dx : DL H xs ds) (s : SeqAt.shaped (.list ds) = true) (q : Q (.bl (!ds.isEmpty)) H) : rNeD K (.ref a) (.ref b) H Q :=
  ⟨.list ds, .list [], .lst (SqL.of ha) dx.dp, .lst (SqL.of hb) .nil, s, shNil, by rw [eqvNil]; exact q⟩
/-- a list against [] -/
theorem g_eqNil {K : PySem.W.Frag} {H : Hp} {Q : VK} {a b : Addr} {xs : List V} {ds : List PyData} (ha : H a = some (.lst xs)) (hb : H b = some (.lst [])) (dx : DL H xs ds) (s : SeqAt.shaped (.list ds) = true) (q : Q (.bl ds.isEmpty) H) : rEqD K (.ref a) (.ref b) H Q :=
  ⟨.list ds, .list [], .lst (SqL.of ha) dx.dp, .lst (SqL.of hb) .nil, s, shNil, by rw [eqvNil]; exact q⟩
end K34

/-! Texts of numbers. -/
namespace K34
open PySem PySem.Spec PyProof.Rows L2
theorem digits_len (b : Nat) : ∀ (f n : Nat) (ds : List Char), (Nat.toDigitsCore b f n ds).length ≤ f + ds.length
  | 0, n, ds => by simp [Nat.toDigitsCore]
  | f + 1, n, ds => by
    unfold Nat.toDigitsCore
    dsimp only
    split
    · simp only [List.length_cons]; omega
    · have := digits_len b f (n / b) (Nat.digitChar (n % b) :: ds)
      simp only [List.length_cons] at this
      omega
theorem ofString_ok (s : String) : strOk (Str.ofString s) = true := by
  show (Str.ofString s).cps.all (· < 0x110000) = true
  rw [Str.ofString_eq_toList]
  show (s.toList.map Char.toNat).toArray.all (· < 0x110000) = true
  rw [List.all_toArray, List.all_eq_true]
  intro x hx
  obtain ⟨c, _, rfl⟩ := List.mem_map.mp hx
  refine decide_eq_true ?_
  rcases c.valid with h | h
  · exact Nat.lt_trans h (by decide)
  · exact h.2
theorem ofString_len (s : String) : (Str.ofString s).length = s.length := by
  rw [Str.ofString_eq_toList]
  show (s.toList.map Char.toNat).toArray.size = s.length
  rw [List.size_toArray, List.length_map]
  first | rfl | exact String.length_toList | exact (String.length_toList).symm | simp [String.length]
theorem app_ok {a b : Str} (h1 : strOk a = true) (h2 : strOk b = true) : strOk (a ++ b) = true := by
  have h1 : a.cps.all (· < 0x110000) = true := h1
  have h2 : b.cps.all (· < 0x110000) = true := h2
  show (a.cps ++ b.cps).all (· < 0x110000) = true
  rw [Array.all_append, h1, h2]; rfl
theorem nat_len (n : Nat) : (toString ((n : Nat) : Int)).length ≤ n + 1 := by
  show (Nat.repr n).length ≤ n + 1
  unfold Nat.repr Nat.toDigits
  have := digits_len 10 (n + 1) n []
  simpa using this
end K34

/-! What a run costs. -/
namespace K34
open PySem

mutual
def Stm.cost : Stm → Nat
  | .msg _ _ _ _ _ => 3
  | .set _ _ _ => 2
  | .ask _ _ => 2
  | .ite _ _ y n => 1 + costB y + costB n
  | .whl _ _ b => 9 + 8 * costB b
  | .call _ _ => 0
def costB : List Stm → Nat
  | [] => 0
  | s :: r => s.cost + costB r
end
theorem costB_append (a b : List Stm) : costB (a ++ b) = costB a + costB b := by
  induction a with
  | nil => simp [costB]
  | cons s r ih => simp [costB, ih, Nat.add_assoc]
theorem costB_snoc (a : List Stm) (s : Stm) : costB (a ++ [s]) = costB a + s.cost := by rw [costB_append]; simp [costB]
theorem costB_take (b : List Stm) (i : Nat) : costB (b.take i) ≤ costB b := by
  have h := costB_append (b.take i) (b.drop i)
  rw [List.take_append_drop] at h
  omega
mutual
theorem cost_le : ∀ (s : Stm) (k : Nat), s.lp ≤ k → s.cost ≤ 3 * s.sz * 9 ^ k
  | .msg _ _ _ _ _, k, _ => by
    have := Nat.one_le_pow k 9 (by decide)
    simp only [Stm.cost, Stm.sz]; omega
  | .set _ _ _, k, _ => by
    have := Nat.one_le_pow k 9 (by decide)
    simp only [Stm.cost, Stm.sz]; omega
  | .ask _ _, k, _ => by
    have := Nat.one_le_pow k 9 (by decide)
    simp only [Stm.cost, Stm.sz]; omega
  | .call _ _, k, _ => Nat.zero_le _
  | .ite e v y n, k, h => by
    simp only [Stm.lp] at h
    have h1 := costB_le y k (by omega)
    have h2 := costB_le n k (by omega)
    have := Nat.one_le_pow k 9 (by decide)
    simp only [Stm.cost, Stm.sz, Nat.mul_add, Nat.add_mul] at *
    omega
  | .whl e v b, 0, h => by simp only [Stm.lp] at h; omega
  | .whl e v b, k + 1, h => by
    simp only [Stm.lp] at h
    have h1 := costB_le b k (by omega)
    have := Nat.one_le_pow k 9 (by decide)
    simp only [Stm.cost, Stm.sz, Nat.mul_add, Nat.add_mul, Nat.pow_succ] at *
    have e1 : 3 * szB b * (9 ^ k * 9) = 9 * (3 * szB b * 9 ^ k) := by rw [← Nat.mul_assoc, Nat.mul_comm]
    omega
theorem costB_le : ∀ (b : List Stm) (k : Nat), lpB b ≤ k → costB b ≤ 3 * szB b * 9 ^ k
  | [], _, _ => Nat.zero_le _
  | s :: r, k, h => by
    simp only [lpB] at h
    have h1 := cost_le s k (by omega)
    have h2 := costB_le r k (by omega)
    simp only [costB, szB, Nat.mul_add, Nat.add_mul]
    omega
end
theorem cost_ok {E : List Str} {b : List Stm} (h : okTree E b = true) : costB b ≤ 400000 := by
  unfold okTree at h
  simp only [Bool.and_eq_true, decide_eq_true_eq] at h
  obtain ⟨_, h1, h2⟩ := h
  have h3 := costB_le b 3 h1
  have : (9 : Nat) ^ 3 = 729 := by decide
  rw [this] at h3
  omega
theorem cost_innI {e : Str} {v : Val} {y n : List Stm} : (Stm.ite e v y n).cost = 1 + costB y + costB n := by simp [Stm.cost]
theorem runB_snoc (a : List Stm) (s : Stm) (p : Nat) (w : Wd) : runB (a ++ [s]) p w = runS s (p + szB a) (runB a p w) := by
  rw [runB_append]; simp [runB]
end K34

namespace K34
open PySem PySem.Spec PyProof.Rows L2
local macro_rules | `(tactic| wtm_at "hp") => `(tactic| fail)
local macro_rules | `(tactic| wtm_at "hl") => `(tactic| fail)
local macro_rules | `(tactic| wtm_at "hd") => `(tactic| fail)
local macro_rules | `(tactic| wtm_at "fr") => `(tactic| fail)
local macro_rules | `(tactic| wtm_at "at") => `(tactic| fail)
local macro_rules | `(tactic| wtm_at "gn") => `(tactic| fail)
local macro_rules | `(tactic| wtm_at "gx1") => `(tactic| fail)
local macro_rules | `(tactic| wtm_at "go1") => `(tactic| fail)
local macro_rules | `(tactic| wtm_at "gx") => `(tactic| fail)
local macro_rules | `(tactic| wtm_at "go") => `(tactic| fail)
local macro_rules | `(tactic| wtm_at "kk") => `(tactic| fail)
local macro_rules | `(tactic| wtm_at "wi") => `(tactic| fail)
local macro_rules | `(tactic| wtm_at "fs") => `(tactic| fail)
local macro_rules | `(tactic| wtm_at "tp") => `(tactic| fail)
local macro_rules | `(tactic| wtm_at "hp") => `(tactic| first
  | assumption
  | exact upd_same
  | (apply Frm.tupS; assumption; wtm_at "hp")
  | (apply Frm.get0; assumption; wtm_at "hp")
  | (apply Frm.at1; assumption; assumption; wtm_at "hp"))
local macro_rules | `(tactic| wtm_at "hl") => `(tactic| first
  | assumption
  | exact K34.DL.nil
  | (apply K34.DL.cons; wtm_at "hd"; wtm_at "hl")
  | (apply K34.DL.frm; assumption; wtm_at "hl"))
local macro_rules | `(tactic| wtm_at "hd") => `(tactic| first
  | assumption
  | with_reducible exact K34.D.str _
  | with_reducible exact K34.D.int _
  | with_reducible exact K34.D.bl _
  | with_reducible exact K34.D.non
  | (apply K34.D.tup; wtm_at "hp"; wtm_at "hl")
  | (apply K34.D.frm; assumption; wtm_at "hd"))
local macro_rules | `(tactic| wtm_at "fr") => `(tactic| first
  | assumption
  | exact Frm.refl _ _
  | (apply Frm.then; assumption; wtm_at "fr"))
local macro_rules | `(tactic| wtm_at "at") => `(tactic| first
  | assumption
  | ((with_reducible apply at0); exact rfl)
  | ((with_reducible apply at1); exact rfl)
  | ((with_reducible apply at2); exact rfl)
  | ((with_reducible apply at3); exact rfl)
  | ((with_reducible apply at4); exact rfl)
  | ((with_reducible apply at5); exact rfl))
local macro_rules | `(tactic| wtm_at "gn") => `(tactic| first
  | with_reducible refine gn0 ?_
  | with_reducible refine gn1 ?_
  | with_reducible refine gn2 ?_
  | with_reducible refine gn3 ?_
  | with_reducible refine gn4 ?_
  | with_reducible refine gn5 ?_
  | with_reducible refine gn6 ?_
  | with_reducible refine gn7 ?_
  | with_reducible refine gn8 ?_
  | with_reducible refine gn9 ?_
  | with_reducible refine gn10 ?_
  | with_reducible refine gn11 ?_
  | with_reducible refine gn12 ?_
  | with_reducible refine gn13 ?_
  | with_reducible refine gn14 ?_
  | with_reducible refine gn15 ?_
  | with_reducible refine gn16 ?_
  | with_reducible refine gn17 ?_)
local macro_rules | `(tactic| wtm_at "gx1") => `(tactic| first
  | with_reducible refine g_op ?_
  | with_reducible refine g_cons ?_
  | with_reducible refine g_nil ?_
  | ((with_reducible apply g_var); exact rfl)
  | with_reducible refine g_c ?_
  | with_reducible refine g_tup ?_
  | ((with_reducible apply g_KT); exact Nat.le_of_ble_eq_true rfl; intro _ _ _ _ _)
  | ((with_reducible apply g_ixT); wtm_at "hp"; wtm_at "at")
  | ((with_reducible apply g_ixL); wtm_at "hp"; wtm_at "at")
  | with_reducible refine g_asg ?_
  | ((with_reducible refine g_name ?_); wtm_at "gn")
  | with_reducible refine g_ret ?_
  | with_reducible refine g_if ?_
  | with_reducible refine g_test ?_
  | with_reducible refine g_KB ?_
  | with_reducible refine g_bl ?_
  | ((with_reducible apply g_eqT); exact rfl; decide +kernel)
  | ((with_reducible apply g_eqF); exact rfl; decide +kernel)
  | ((with_reducible apply g_neT); exact rfl; decide +kernel)
  | ((with_reducible apply g_neF); exact rfl; decide +kernel)
  | with_reducible refine iteT ?_
  | with_reducible refine iteF ?_
  | with_reducible refine g_B ?_
  | with_reducible refine g_next ?_
  | with_reducible refine g_call ?_
  | with_reducible refine g_cb ?_
  | with_reducible refine g_orV ?_
  | with_reducible refine g_andV ?_
  | with_reducible refine g_notV ?_
  | with_reducible refine g_and ?_
  | with_reducible refine g_or ?_
  | with_reducible refine g_not ?_
  | with_reducible refine g_ifE ?_
  | with_reducible refine g_lst ?_
  | ((with_reducible apply g_KL); exact Nat.le_of_ble_eq_true rfl; intro _ _ _ _ _)
  | ((with_reducible apply g_gtup); wtm_at "hp"; exact rfl)
  | with_reducible refine g_gcons ?_
  | with_reducible refine g_gnil ?_
  | with_reducible refine g_drop ?_
  | ((with_reducible apply g_aug); exact rfl)
  | with_reducible refine g_ipI ?_
  | with_reducible refine g_add ?_
  | with_reducible refine g_sub ?_
  | with_reducible refine g_lt ?_
  | with_reducible refine g_le ?_
  | with_reducible refine g_gt ?_
  | with_reducible refine g_retN ?_
  | with_reducible refine g_sl ?_
  | with_reducible refine g_part ?_
  | with_reducible refine g_partI ?_
  | with_reducible refine g_nopart ?_
  | ((with_reducible apply g_slF2); wtm_at "hp"; intro _ _ _ _)
  | ((with_reducible apply g_slF3); wtm_at "hp"; intro _ _ _ _)
  | ((with_reducible apply g_slU2); wtm_at "hp"; intro _ _ _ _)
  | ((with_reducible apply g_slU3); wtm_at "hp"; intro _ _ _ _)
  | ((with_reducible apply g_catT); wtm_at "hp"; wtm_at "hp"; exact Nat.le_of_ble_eq_true rfl; intro _ _ _ _)
  | ((with_reducible apply g_lenT); wtm_at "hp")
  | ((with_reducible apply g_lenL); wtm_at "hp")
  | with_reducible refine g_par ?_
  | with_reducible refine g_par2 ?_
  | with_reducible refine g_bm ?_
  | ((with_reducible apply ty_L); wtm_at "hp")
  | with_reducible refine g_fld ?_
  | ((with_reducible apply g_dgetS); wtm_at "hp"; assumption)
  | with_reducible refine g_int1 ?_
  | with_reducible refine g_abs ?_
  | with_reducible refine g_iEn ?_
  | ((with_reducible apply g_kEn); wtm_at "hp")
  | with_reducible refine g_fset ?_
  | ((with_reducible apply g_tupL); wtm_at "hp"; intro _ _ _ _)
  | with_reducible refine g_chain ?_
  | with_reducible refine g_forL ?_
  | with_reducible refine g_forT ?_
  | with_reducible refine g_forJ ?_
  | with_reducible refine g_lc ?_
  | with_reducible refine g_iT ?_
  | with_reducible refine g_iL ?_
  | with_reducible refine g_iR ?_
  | with_reducible refine g_iKs ?_
  | with_reducible refine g_fz ?_
  | with_reducible refine g_dc ?_
  | ((with_reducible apply g_kT); wtm_at "hp")
  | ((with_reducible apply g_kL); wtm_at "hp")
  | with_reducible refine g_tYes ?_
  | ((with_reducible apply g_turnC); exact rfl)
  | ((with_reducible apply g_dturn); exact rfl)
  | with_reducible refine g_yes ?_
  | with_reducible refine g_dget ?_
  | with_reducible refine g_dnin ?_
  | with_reducible refine g_din ?_
  | with_reducible refine g_dput ?_
  | with_reducible refine g_notNr ?_
  | with_reducible refine g_notN0 ?_
  | with_reducible refine g_isNr ?_
  | with_reducible refine g_isN0 ?_
  | ((with_reducible apply g_catL); wtm_at "hp"; wtm_at "hp"; exact Nat.le_of_ble_eq_true rfl; intro _ _ _ _ _)
  | ((with_reducible apply g_fldI); wtm_at "hp"; exact ScC.cl (by assumption); (first | with_reducible exact ScC.n3 (by assumption) | with_reducible exact ScC.n4 (by assumption) | with_reducible exact ScC.n1 (by assumption) | with_reducible exact ScC.n2 (by assumption)); (first | with_reducible exact lookS | with_reducible exact lookN | with_reducible exact lookE))
  | ((with_reducible apply g_eqV); exact rfl)
  | ((with_reducible apply g_neV); exact rfl)
  | wtm_at "gn")
local macro_rules | `(tactic| wtm_at "go1") => `(tactic| first
  | with_reducible refine g_seq ?_
  | wtm_at "gx1")
local macro_rules | `(tactic| wtm_at "gx") => `(tactic| repeat (wtm_at "gx1"))
local macro_rules | `(tactic| wtm_at "go") => `(tactic| repeat (wtm_at "go1"))
local macro_rules | `(tactic| wtm_at "kk") => `(tactic| dsimp only [cxOf, Cx.nox, Cx.wish])
local macro_rules | `(tactic| wtm_at "wi") => `(tactic| dsimp only [wipe, List.map, List.set])
local macro_rules | `(tactic| wtm_at "fs") => `(tactic| first
  | assumption
  | exact Frm.refl _ _
  | (apply Frm.any; assumption)
  | (apply Frm.then; (first | assumption | (apply Frm.any; assumption)); wtm_at "fs"))
local macro_rules | `(tactic| wtm_at "tp") => `(tactic| first
  | assumption
  | (refine Tape.frm ?_ (by assumption); wtm_at "tp"))
/-! What is read off a score. -/

section
variable {P : Program} {w : World} {K : PySem.W.Frag} {mg : Str → Option Value} {base : Heap} {C : Addr}
abbrev sAfter : Stmt := top 26
theorem scAfter : FnScope ["score", "position", "answer"] ["score", "position", "answer"] (defScope sAfter) := ⟨rfl, rfl, rfl, by decide +kernel, rfl, by decide +kernel, by decide +kernel⟩
def pAfter (K : PySem.W.Frag) (C : Addr) (sc p a : V) (H : Hp) (Q : VK) (_ : XK) : Prop := ∃ e R i r an, Scr K C H sc e R ∧ p = .int (i : Nat) ∧ a = .str an ∧ R[i]? = some r ∧ an ∈ ansL r.1 ∧ Q (.int (aft r an)) H
theorem ok_after (A : At K mg "after" sAfter ["score", "position", "answer"]) : Has P w K mg base CX0 "after" ["score", "position", "answer"] 1 (sp3 (pAfter K C)) := by
  refine has_mk A scAfter (fun vs H Q E h => by obtain ⟨_, _, _, rfl, _⟩ := h; rfl) fun f cdv A outer s H vs Q E hr h => ?_
  obtain ⟨sc, p, a, rfl, e, R, i, r, an, hS, rfl, rfl, hi, ha, q⟩ := h
  refine ⟨_, (pss_one (ps_ret (pe_ix ix_tup (pe_ix ix_tup (pe_fld (pv 0) rfl) (pv 1) (fun _ _ => rfl)) (pe_ifExp (pt_cmpR op_eq (pv 2) pe_str (nomark _)) pe_int pe_int) (fun _ _ => rfl)))), ?_⟩
  wtm_at "kk"
  refine g_st (σ' := [some (sc), some (.int (i : Nat)), some (.str an)]) rfl ?_
  obtain ⟨a, dx, bl, st, nx, xs, ys, x, y, rfl, h2, c, h4, h6, ex, ey, dX, dY, hl, ok, nc, g⟩ := hS.at hi
  rcases ans_cases ok ha with ⟨_, rfl, u, e2⟩ | ⟨_, rfl | rfl, u, v, e2⟩
  · rw [e2] at dY
    obtain ⟨b, x0, rfl, hb, d0⟩ := D.t1 dY
    cases d0
    wtm_at "go"
    unfold aft at q
    rw [e2, if_neg emp_no] at q
    exact q
  · rw [e2] at dY
    obtain ⟨b, x0, x1, rfl, hb, d0, d1⟩ := D.t2 dY
    cases d0
    cases d1
    wtm_at "go"
    unfold aft at q
    rw [e2, if_neg yes_no] at q
    exact q
  · rw [e2] at dY
    obtain ⟨b, x0, x1, rfl, hb, d0, d1⟩ := D.t2 dY
    cases d0
    cases d1
    wtm_at "go"
    unfold aft at q
    rw [e2, if_pos rfl] at q
    exact q
abbrev sConcerns : Stmt := top 27
theorem scConcerns : FnScope ["score", "position", "end", "statement"] ["score", "position", "end"] (defScope sConcerns) := ⟨rfl, rfl, rfl, by decide +kernel, rfl, by decide +kernel, by decide +kernel⟩
def pConc (K : PySem.W.Frag) (C : Addr) (sc p en : V) (H : Hp) (Q : VK) (_ : XK) : Prop := ∃ e R i r z, Scr K C H sc e R ∧ p = .int (i : Nat) ∧ en = .str z ∧ R[i]? = some r ∧ Q (.bl (r.1.conc z)) H
theorem decS {a b : Str} : decide (V.str a = V.str b) = decide (a = b) := by
  by_cases h : a = b
  · subst h; simp
  · rw [decide_eq_false h, decide_eq_false (fun q => h (V.str.inj q))]
theorem ok_concerns (A : At K mg "concerns" sConcerns ["score", "position", "end"]) : Has P w K mg base CX0 "concerns" ["score", "position", "end"] 1 (sp3 (pConc K C)) := by
  refine has_mk A scConcerns (fun vs H Q E h => by obtain ⟨_, _, _, rfl, _⟩ := h; rfl) fun f cdv A outer s H vs Q E hr h => ?_
  obtain ⟨sc, p, en, rfl, e, R, i, r, z, hS, rfl, rfl, hi, q⟩ := h
  refine ⟨_, (pss_cons (ps_set (i := 3) scConcerns.nd rfl (Or.inl rfl) (pe_ix ix_tup (pe_fld (pv 0) rfl) (pv 1) (fun _ _ => rfl))) (pss_one (ps_ret (pe_or (pe_cmpR op_eq (pe_ix ix_tup (pv 3) pe_int (fun _ _ => rfl)) (pv 2) (nomark _)) (pe_one (pe_and (pe_cmpR op_eq (pe_ix ix_tup (pv 3) pe_int (fun _ _ => rfl)) pe_str (nomark _)) (pe_one (pe_cmpR op_eq (pe_ix ix_tup (pv 3) pe_int (fun _ _ => rfl)) (pv 2) (nomark _))))))))), ?_⟩
  wtm_at "kk"
  refine g_st (σ' := [some (sc), some (.int (i : Nat)), some (.str z), none]) rfl ?_
  obtain ⟨a, dx, bl, st, nx, xs, ys, x, y, rfl, h2, c, h4, h6, ex, ey, dX, dY, hl, ok, nc, g⟩ := hS.at hi
  obtain ⟨fs, l⟩ := r
  cases fs with
  | msg f t l v y =>
    obtain ⟨b, x0, x1, x2, x3, x4, x5, rfl, hb, d0, d1, d2, d3, d4, d5⟩ := D.t6 dX
    cases d0; cases d1; cases d2
    wtm_at "go"
    simp only [FS.conc] at q
    refine g_ite (fun c => ?_) fun c => ?_
    · rw [decS] at c
      rw [c] at q
      exact q
    · wtm_at "go"
      rw [decS] at c
      rw [c, Bool.false_or, ← decS] at q
      exact q
  | set e1 y v =>
    obtain ⟨b, x0, x1, x2, x3, rfl, hb, d0, d1, d2, d3⟩ := D.t4 dX
    cases d0; cases d1
    wtm_at "go"
    simp only [FS.conc] at q
    refine g_ite (fun c => ?_) fun c => ?_
    · rw [decS] at c
      rw [c] at q
      exact q
    · wtm_at "go"
      rw [decS] at c
      rw [c] at q
      exact q
  | ask e1 y =>
    obtain ⟨b, x0, x1, x2, rfl, hb, d0, d1, d2⟩ := D.t3 dX
    cases d0; cases d1
    wtm_at "go"
    simp only [FS.conc] at q
    refine g_ite (fun c => ?_) fun c => ?_
    · rw [decS] at c
      rw [c] at q
      exact q
    · wtm_at "go"
      rw [decS] at c
      rw [c] at q
      exact q
  | ite e1 v =>
    obtain ⟨b, x0, x1, x2, rfl, hb, d0, d1, d2⟩ := D.t3 dX
    cases d0; cases d1
    wtm_at "go"
    simp only [FS.conc] at q
    refine g_ite (fun c => ?_) fun c => ?_
    · rw [decS] at c
      rw [c] at q
      exact q
    · wtm_at "go"
      rw [decS] at c
      rw [c] at q
      exact q
  | whl e1 v =>
    obtain ⟨b, x0, x1, x2, rfl, hb, d0, d1, d2⟩ := D.t3 dX
    cases d0; cases d1
    wtm_at "go"
    simp only [FS.conc] at q
    refine g_ite (fun c => ?_) fun c => ?_
    · rw [decS] at c
      rw [c] at q
      exact q
    · wtm_at "go"
      rw [decS] at c
      rw [c] at q
      exact q
  | call p es => exact False.elim nc
abbrev sLook : Stmt := top 28
theorem scLook : FnScope ["score", "position", "answer", "end", "statement", "word", "_", "sender", "receiver", "label", "value", "variable"] ["score", "position", "answer", "end"] (defScope sLook) := ⟨rfl, rfl, rfl, by decide +kernel, rfl, by decide +kernel, by decide +kernel⟩
def pLook (K : PySem.W.Frag) (C : Addr) (sc p an en : V) (H : Hp) (Q : VK) (_ : XK) : Prop := ∃ e R i r a z, Scr K C H sc e R ∧ p = .int (i : Nat) ∧ an = .str a ∧ en = .str z ∧ R[i]? = some r ∧ ∀ v H2, Frm [] H H2 → D H2 v (encL (lk z i r.1 a)) → Q v H2
theorem ok_look (A : At K mg "look" sLook ["score", "position", "answer", "end"]) : Has P w K mg base CX0 "look" ["score", "position", "answer", "end"] 1 (sp4 (pLook K C)) := by
  refine has_mk A scLook (fun vs H Q E h => by obtain ⟨_, _, _, _, rfl, _⟩ := h; rfl) fun f cdv A outer s H vs Q E hr h => ?_
  obtain ⟨sc, p, an, en, rfl, e, R, i, r, a, z, hS, rfl, rfl, rfl, hi, q⟩ := h
  refine ⟨_, (pss_cons (ps_set (i := 4) scLook.nd rfl (Or.inl rfl) (pe_ix ix_tup (pe_fld (pv 0) rfl) (pv 1) (fun _ _ => rfl))) (pss_cons (ps_set (i := 5) scLook.nd rfl (Or.inl rfl) (pe_ix ix_tup (pv 4) pe_int (fun _ _ => rfl))) (pss_cons (ps_if (pt_cmpR op_eq (pv 5) pe_str (nomark _)) (pss_cons (ps_asg (pv 4) (pg_tup rfl (pgs_cons (pg_name (i := 6) scLook.nd rfl (Or.inl rfl)) (pgs_cons (pg_name (i := 7) scLook.nd rfl (Or.inl rfl)) (pgs_cons (pg_name (i := 8) scLook.nd rfl (Or.inl rfl)) (pgs_cons (pg_name (i := 9) scLook.nd rfl (Or.inl rfl)) (pgs_cons (pg_name (i := 10) scLook.nd rfl (Or.inl rfl)) (pgs_cons (pg_name (i := 11) scLook.nd rfl (Or.inl rfl)) pgs_nil)))))))) (pss_cons (ps_if (pt_cmpR op_eq (pv 7) (pv 3) (nomark _)) (pss_one (ps_ret (pe_tup (pa_cons pe_str (pa_cons (pv 8) (pa_cons (pv 9) (pa_cons (pv 10) pa_nil))))))) pss_nil) (pss_one (ps_ret (pe_tup (pa_cons pe_str (pa_cons (pv 7) (pa_cons (pv 9) (pa_cons (pv 11) pa_nil))))))))) pss_nil) (pss_cons (ps_if (pt_cmpR op_eq (pv 5) pe_str (nomark _)) (pss_one (ps_ret (pe_tup (pa_cons pe_str (pa_cons (pe_ix ix_tup (pv 4) pe_int (fun _ _ => rfl)) (pa_cons (pv 2) pa_nil)))))) pss_nil) (pss_cons (ps_if (pt_cmpR op_eq (pv 5) pe_str (nomark _)) (pss_one (ps_ret (pe_tup (pa_cons pe_str (pa_cons (pv 1) (pa_cons (pe_ix ix_tup (pv 4) pe_int (fun _ _ => rfl)) (pa_cons (pv 2) pa_nil))))))) pss_nil) (pss_one (ps_ret (pe_op op_catA (pe_tup (pa_cons (pv 5) pa_nil)) (pe_slice sl_tupA (pv 4) (po_some pe_int) po_none))))))))), ?_⟩
  wtm_at "kk"
  refine g_st (σ' := [some (sc), some (.int (i : Nat)), some (.str a), some (.str z), none, none, none, none, none, none, none, none]) rfl ?_
  obtain ⟨a0, dx, bl, st, nx, xs, ys, x, y, rfl, h2, c, h4, h6, ex, ey, dX, dY, hl, ok, nc, g⟩ := hS.at hi
  obtain ⟨fs, l⟩ := r
  cases fs with
  | msg f t l v y =>
    obtain ⟨b, x0, x1, x2, x3, x4, x5, rfl, hb, d0, d1, d2, d3, d4, d5⟩ := D.t6 dX
    cases d0; cases d1; cases d2; cases d3; cases d5
    wtm_at "go"
    simp only [lk] at q
    refine g_ite (fun c => ?_) fun c => ?_
    · rw [decS] at c
      rw [if_pos (of_decide_eq_true c)] at q
      wtm_at "go"
      exact q _ _ (by wtm_at "fr") (by wtm_at "hd")
    · rw [decS] at c
      rw [if_neg (of_decide_eq_false c)] at q
      wtm_at "go"
      exact q _ _ (by wtm_at "fr") (by wtm_at "hd")
  | set e1 y v =>
    obtain ⟨b, x0, x1, x2, x3, rfl, hb, d0, d1, d2, d3⟩ := D.t4 dX
    cases d0; cases d1; cases d2
    wtm_at "go"
    exact q _ _ (by wtm_at "fr") (by wtm_at "hd")
  | ask e1 y =>
    obtain ⟨b, x0, x1, x2, rfl, hb, d0, d1, d2⟩ := D.t3 dX
    cases d0; cases d1; cases d2
    wtm_at "go"
    exact q _ _ (by wtm_at "fr") (by wtm_at "hd")
  | ite e1 v =>
    obtain ⟨b, x0, x1, x2, rfl, hb, d0, d1, d2⟩ := D.t3 dX
    cases d0; cases d1
    wtm_at "go"
    exact q _ _ (by wtm_at "fr") (by wtm_at "hd")
  | whl e1 v =>
    obtain ⟨b, x0, x1, x2, rfl, hb, d0, d1, d2⟩ := D.t3 dX
    cases d0; cases d1
    wtm_at "go"
    exact q _ _ (by wtm_at "fr") (by wtm_at "hd")
  | call p es => exact False.elim nc
end

section
variable {P : Program} {w : World} {K : PySem.W.Frag} {mg : Str → Option Value} {base : Heap} {C : Addr}
abbrev sAnswers : Stmt := top 25
theorem scAnswers : FnScope ["score", "position"] ["score", "position"] (defScope sAnswers) := ⟨rfl, rfl, rfl, by decide +kernel, rfl, by decide +kernel, by decide +kernel⟩
def pAnswers (K : PySem.W.Frag) (C : Addr) (sc p : V) (H : Hp) (Q : VK) (_ : XK) : Prop := ∃ e R i r, Scr K C H sc e R ∧ p = .int (i : Nat) ∧ R[i]? = some r ∧ ∀ l H2, H l = none → Frm [] H H2 → H2 l = some (.lst ((ansL r.1).map V.str)) → Q (.ref l) H2
theorem ok_answers (T : Tx K mg) (A : At K mg "answers" sAnswers ["score", "position"]) : Has P w K mg base CX0 "answers" ["score", "position"] 1 (sp2 (pAnswers K C)) := by
  refine has_mk A scAnswers (fun vs H Q E h => by obtain ⟨_, _, rfl, _⟩ := h; rfl) fun f cdv A outer s H vs Q E hr h => ?_
  obtain ⟨sc, p, rfl, e, R, i, r, hS, rfl, hi, q⟩ := h
  obtain ⟨aB, hBR, hSB⟩ := T.br
  refine ⟨_, (pss_cons (ps_if (pt_cmpR op_in_seq (pe_ix ix_tup (pe_ix ix_tup (pe_fld (pv 0) rfl) (pv 1) (fun _ _ => rfl)) pe_int (fun _ _ => rfl)) (pe_glob (v := .ref aB) rfl hBR rfl) (by rfl)) (pss_one (ps_ret (pe_lst (pa_cons pe_str (pa_cons pe_str pa_nil))))) pss_nil) (pss_one (ps_ret (pe_lst (pa_cons pe_str pa_nil))))), ?_⟩
  wtm_at "kk"
  refine g_st (σ' := [some (sc), some (.int (i : Nat))]) rfl ?_
  obtain ⟨a, dx, bl, st, nx, xs, ys, x, y, rfl, h2, c, h4, h6, ex, ey, dX, dY, hl, ok, nc, g⟩ := hS.at hi
  obtain ⟨fs, l⟩ := r
  cases fs with
  | msg f t l v y =>
    obtain ⟨b, x0, x1, x2, x3, x4, x5, rfl, hb, d0, d1, d2, d3, d4, d5⟩ := D.t6 dX
    cases d0
    wtm_at "go"
    refine g_inK (hSB _) rfl rfl ?_
    rw [show inV (.str "message") [.str "if", .str "while"] = false from by decide +kernel]
    wtm_at "go"
    exact q _ _ (by assumption) (by wtm_at "fr") (by wtm_at "hp")
  | set e1 y v =>
    obtain ⟨b, x0, x1, x2, x3, rfl, hb, d0, d1, d2, d3⟩ := D.t4 dX
    cases d0
    wtm_at "go"
    refine g_inK (hSB _) rfl rfl ?_
    rw [show inV (.str "set") [.str "if", .str "while"] = false from by decide +kernel]
    wtm_at "go"
    exact q _ _ (by assumption) (by wtm_at "fr") (by wtm_at "hp")
  | ask e1 y =>
    obtain ⟨b, x0, x1, x2, rfl, hb, d0, d1, d2⟩ := D.t3 dX
    cases d0
    wtm_at "go"
    refine g_inK (hSB _) rfl rfl ?_
    rw [show inV (.str "ask") [.str "if", .str "while"] = false from by decide +kernel]
    wtm_at "go"
    exact q _ _ (by assumption) (by wtm_at "fr") (by wtm_at "hp")
  | ite e1 v =>
    obtain ⟨b, x0, x1, x2, rfl, hb, d0, d1, d2⟩ := D.t3 dX
    cases d0
    wtm_at "go"
    refine g_inK (hSB _) rfl rfl ?_
    rw [show inV (.str "if") [.str "if", .str "while"] = true from by decide +kernel]
    wtm_at "go"
    exact q _ _ (by assumption) (by wtm_at "fr") (by wtm_at "hp")
  | whl e1 v =>
    obtain ⟨b, x0, x1, x2, rfl, hb, d0, d1, d2⟩ := D.t3 dX
    cases d0
    wtm_at "go"
    refine g_inK (hSB _) rfl rfl ?_
    rw [show inV (.str "while") [.str "if", .str "while"] = true from by decide +kernel]
    wtm_at "go"
    exact q _ _ (by assumption) (by wtm_at "fr") (by wtm_at "hp")
  | call p es => exact False.elim nc
abbrev sMustAct : Stmt := top 29
theorem scMustAct : FnScope ["score", "position", "end"] ["score", "position", "end"] (defScope sMustAct) := ⟨rfl, rfl, rfl, by decide +kernel, rfl, by decide +kernel, by decide +kernel⟩
def pMust (K : PySem.W.Frag) (C : Addr) (sc p en : V) (H : Hp) (Q : VK) (_ : XK) : Prop := ∃ e R i z, Scr K C H sc e R ∧ p = .int (i : Nat) ∧ en = .str z ∧ i ≤ R.length ∧ Q (.bl (must R z i)) H
theorem Scr.top {H : Hp} {v e : V} {R : List Row} (h : Scr K C H v e R) : ∃ a dx bl st nx xs ys, v = .ref a ∧ H a = some (.ins C dx [("ends", e), ("block", bl), ("statements", .ref st), ("next", .ref nx)]) ∧ ScC K C ∧ H st = some (.tup xs) ∧ H nx = some (.tup ys) ∧ xs.length = R.length ∧ GoodR R := by
  obtain ⟨a, dx, bl, st, nx, xs, ys, h1, h2, h3, h4, h5, h6, h7, g⟩ := h
  exact ⟨a, dx, bl, st, nx, xs, ys, h1, h2, h3, h4, h6, by rw [h5.len, List.length_map], g⟩
theorem ok_must (T : Tx K mg) (A : At K mg "must_act" sMustAct ["score", "position", "end"]) (C_concerns : Has P w K mg base CX0 "concerns" ["score", "position", "end"] 1 (sp3 (pConc K C))) : Has P w K mg base CX0 "must_act" ["score", "position", "end"] 2 (sp3 (pMust K C)) := by
  refine has_mk A scMustAct (fun vs H Q E h => by obtain ⟨_, _, _, rfl, _⟩ := h; rfl) fun f cdv A outer s H vs Q E hr h => ?_
  obtain ⟨sc, p, en, rfl, e, R, i, z, hS, rfl, rfl, hi, q⟩ := h
  refine ⟨_, (pss_one (ps_ret (pe_or (pe_cmpR op_eq (pv 1) (pe_callB k_len (by rfl) T.len PySem.boot_len (pa_cons (pe_fld (pv 0) rfl) pa_nil)) (nomark _)) (pe_one (pe_h0 C_concerns (hr.mono (by omega)) (pa_cons (pv 0) (pa_cons (pv 1) (pa_cons (pv 2) pa_nil)))))))), ?_⟩
  wtm_at "kk"
  refine g_st (σ' := [some (sc), some (.int (i : Nat)), some (.str z)]) rfl ?_
  obtain ⟨a, dx, bl, st, nx, xs, ys, rfl, h2, c, h4, h6, hl, g⟩ := hS.top
  wtm_at "go"
  rw [hl, decI]
  refine g_ite (fun c => ?_) fun c => ?_
  · have : R[i]? = none := List.getElem?_eq_none (by have := of_decide_eq_true c; omega)
    rw [must_none this] at q
    exact q
  · have hlt : i < R.length := by have := of_decide_eq_false c; omega
    have hr' : R[i]? = some R[i] := List.getElem?_eq_getElem hlt
    wtm_at "go"
    refine to3 ⟨e, R, i, R[i], z, hS, rfl, rfl, hr', ?_⟩
    rw [must_of hr'] at q
    exact q
abbrev sAgree : Stmt := top 30
theorem scAgree : FnScope ["score", "end", "first", "second", "one", "two"] ["score", "end", "first", "second"] (defScope sAgree) := ⟨rfl, rfl, rfl, by decide +kernel, rfl, by decide +kernel, by decide +kernel⟩
def pAgree (K : PySem.W.Frag) (C : Addr) (sc en p p2 : V) (H : Hp) (Q : VK) (_ : XK) : Prop := ∃ e R z i j, Scr K C H sc e R ∧ en = .str z ∧ p = .int (i : Nat) ∧ p2 = .int (j : Nat) ∧ i ≤ R.length ∧ j ≤ R.length ∧ ∀ H2, Frm [] H H2 → Q (.bl (agr R z i j)) H2
theorem agr_end {R : List Row} {z : Str} {i j : Nat} (h : ¬ i = j) (o : i = R.length ∨ j = R.length) : agr R z i j = false := by
  unfold agr
  rw [if_neg h]
  rcases o with rfl | rfl
  · rw [List.getElem?_eq_none (Nat.le_refl _)]
  · rw [List.getElem?_eq_none (i := R.length) (Nat.le_refl _)]
    cases R[i]? <;> rfl
theorem agr_at {R : List Row} {z : Str} {i j : Nat} {r t : Row} (h : ¬ i = j) (hi : R[i]? = some r) (hj : R[j]? = some t) : agr R z i j = agL (lk z i r.1 "") (lk z j t.1 "") := by
  unfold agr
  rw [if_neg h, hi, hj]
theorem emp_ok : strOk "" = true := by decide +kernel
theorem decB {a b : Bool} : decide (V.bl a = V.bl b) = decide (a = b) := by cases a <;> cases b <;> rfl
theorem lw_get {l : Look} (o : okL l) (h : decide (V.str (lw l) = V.str "get") = true) : ∃ f b x, l = .get f b x := by
  cases l with
  | get f b x => exact ⟨f, b, x, rfl⟩
  | bad => exact o.elim
  | send _ _ _ => exact absurd h (show ¬ decide (V.str "send" = V.str "get") = true by decide +kernel)
  | ite _ _ => exact absurd h (show ¬ decide (V.str "if" = V.str "get") = true by decide +kernel)
  | whl _ _ _ => exact absurd h (show ¬ decide (V.str "while" = V.str "get") = true by decide +kernel)
  | set _ _ => exact absurd h (show ¬ decide (V.str "set" = V.str "get") = true by decide +kernel)
  | ask _ => exact absurd h (show ¬ decide (V.str "ask" = V.str "get") = true by decide +kernel)
theorem agL_get (f l x f' l' x' : Str) : agL (.get f l x) (.get f' l' x') = if f = f' then (!decide (l = l') || decide (x = x')) else false := rfl
theorem agL_ne {a b : Look} (h : ∀ f l x f' l' x', ¬ (a = .get f l x ∧ b = .get f' l' x')) : decide (a = b) = agL a b := by
  cases a <;> cases b <;> first | rfl | exact absurd ⟨rfl, rfl⟩ (h _ _ _ _ _ _)
theorem ok_agree (T : Tx K mg) (A : At K mg "agree" sAgree ["score", "end", "first", "second"]) (C_look : Has P w K mg base CX0 "look" ["score", "position", "answer", "end"] 1 (sp4 (pLook K C))) : Has P w K mg base CX0 "agree" ["score", "end", "first", "second"] 2 (sp4 (pAgree K C)) := by
  refine has_mk A scAgree (fun vs H Q E h => by obtain ⟨_, _, _, _, rfl, _⟩ := h; rfl) fun f cdv A outer s H vs Q E hr h => ?_
  obtain ⟨sc, en, p, p2, rfl, e, R, z, i, j, hS, rfl, rfl, rfl, hi, hj, q⟩ := h
  refine ⟨_, (pss_cons (ps_if (pt_cmpR op_eq (pv 2) (pv 3) (nomark _)) (pss_one (ps_ret pe_bl)) pss_nil) (pss_cons (ps_if (pt_cmpR op_in_seq (pe_callB k_len (by rfl) T.len PySem.boot_len (pa_cons (pe_fld (pv 0) rfl) pa_nil)) (pe_tup (pa_cons (pv 2) (pa_cons (pv 3) pa_nil))) (by rfl)) (pss_one (ps_ret pe_bl)) pss_nil) (pss_cons (ps_set (i := 4) scAgree.nd rfl (Or.inl rfl) (pe_h0 C_look (hr.mono (by omega)) (pa_cons (pv 0) (pa_cons (pv 2) (pa_cons pe_str (pa_cons (pv 1) pa_nil)))))) (pss_cons (ps_set (i := 5) scAgree.nd rfl (Or.inl rfl) (pe_h0 C_look (hr.mono (by omega)) (pa_cons (pv 0) (pa_cons (pv 3) (pa_cons pe_str (pa_cons (pv 1) pa_nil)))))) (pss_cons (ps_if (PW.pt (pw_and (pt_cmpR op_eq (pe_ix ix_tup (pv 4) pe_int (fun _ _ => rfl)) pe_str (nomark _)) (pw_and (pt_cmpR op_eq (pe_ix ix_tup (pv 5) pe_int (fun _ _ => rfl)) pe_str (nomark _)) (pw_and1 (pt_cmpR op_eq (pe_ix ix_tup (pv 4) pe_int (fun _ _ => rfl)) (pe_ix ix_tup (pv 5) pe_int (fun _ _ => rfl)) (nomark _)))))) (pss_one (ps_ret (pe_or (pe_cmpR op_ne (pe_ix ix_tup (pv 4) pe_int (fun _ _ => rfl)) (pe_ix ix_tup (pv 5) pe_int (fun _ _ => rfl)) (nomark _)) (pe_one (pe_cmpR op_eq (pe_ix ix_tup (pv 4) pe_int (fun _ _ => rfl)) (pe_ix ix_tup (pv 5) pe_int (fun _ _ => rfl)) (nomark _)))))) pss_nil) (pss_one (ps_ret (pe_cmpR (op_eqD hr.units) (pv 4) (pv 5) (nomark _))))))))), ?_⟩
  wtm_at "kk"
  refine g_st (σ' := [some (sc), some (.str z), some (.int (i : Nat)), some (.int (j : Nat)), none, none]) rfl ?_
  obtain ⟨a, dx, bl, st, nx, xs, ys, rfl, h2, c, h4, h6, hl, g⟩ := hS.top
  wtm_at "go"
  rw [decI]
  refine g_ite (fun c => ?_) fun c1 => ?_
  · wtm_at "go"
    have := q H (Frm.refl _ _)
    unfold agr at this
    rw [if_pos (of_decide_eq_true c)] at this
    exact this
  · have hne := of_decide_eq_false c1
    wtm_at "go"
    apply g_inT
    wtm_at "hp"
    exact rfl
    exact rfl
    rw [hl, inV_int]
    wtm_at "go"
    refine g_ite (fun c => ?_) fun c2 => ?_
    · wtm_at "go"
      have := q _ (by assumption)
      rw [Bool.or_eq_true, decide_eq_true_eq, decide_eq_true_eq] at c
      rw [agr_end hne c] at this
      exact this
    · rw [Bool.or_eq_false_iff, decide_eq_false_iff_not, decide_eq_false_iff_not] at c2
      have hi' : R[i]? = some R[i] := List.getElem?_eq_getElem (by omega)
      have hj' : R[j]? = some R[j] := List.getElem?_eq_getElem (by omega)
      have o1 := lk_ok (e := z) (p := i) (g.good _ (List.mem_of_getElem? hi')) emp_ok
      have o2 := lk_ok (e := z) (p := j) (g.good _ (List.mem_of_getElem? hj')) emp_ok
      have q' : ∀ H2, Frm [] H H2 → Q (.bl (agL (lk z i (R[i]'(by omega)).1 "") (lk z j (R[j]'(by omega)).1 ""))) H2 := fun H2 f2 => by
        have := q H2 f2
        rw [agr_at hne hi' hj'] at this
        exact this
      clear q
      wtm_at "go"
      refine to4 ⟨e, R, i, _, "", z, hS.frm (by assumption), rfl, rfl, rfl, hi', fun v1 H3 f3 d1 => ?_⟩
      wtm_at "go"
      refine to4 ⟨e, R, j, _, "", z, hS.frm (by wtm_at "fr"), rfl, rfl, rfl, hj', fun v2 H4 f4 d2 => ?_⟩
      replace d1 := d1.frm f4
      generalize lk z i (R[i]'(by omega)).1 "" = l1 at *
      generalize lk z j (R[j]'(by omega)).1 "" = l2 at *
      have q2 := q' H4 (by wtm_at "fr")
      obtain ⟨ds1, e1⟩ := encL_head o1
      have d1' := d1
      rw [e1] at d1'
      obtain ⟨a1, xs1, rfl, ha1, dl1⟩ := d1'.tupE
      obtain ⟨x1, r1, rfl, dx1, dl1⟩ := dl1.consE
      cases dx1
      obtain ⟨ds2, e2⟩ := encL_head o2
      have d2' := d2
      rw [e2] at d2'
      obtain ⟨a2, xs2, rfl, ha2, dl2⟩ := d2'.tupE
      obtain ⟨x2, r2, rfl, dx2, dl2⟩ := dl2.consE
      cases dx2
      have fin : decide (l1 = l2) = agL l1 l2 → rEqD K (V.ref a1) (V.ref a2) H4 Q := fun e => by
        refine g_eqD d1 d2 (shL o1) (shL o2) ?_
        rw [eqvL o1 o2, e]
        exact q2
      wtm_at "go"
      refine g_ite (fun c => ?_) fun c => ?_
      · obtain ⟨f1, b1, y1, rfl⟩ := lw_get o1 c
        wtm_at "go"
        refine g_ite (fun c => ?_) fun c => ?_
        · obtain ⟨f2, b2, y2, rfl⟩ := lw_get o2 c
          obtain ⟨_, u0, u1, u2, u3, z1, hu, t0, t1, t2, t3⟩ := D.t4 d1
          obtain ⟨_, w0, w1, w2, w3, z2, hw, s0, s1, s2, s3⟩ := D.t4 d2
          cases z1; cases z2; cases t0; cases t1; cases t2; cases t3; cases s0; cases s1; cases s2; cases s3
          clear ha1 ha2
          wtm_at "go"
          rw [decS]
          refine g_ite (fun c => ?_) fun c => ?_
          · wtm_at "go"
            rw [decS]
            have : agL (.get f1 b1 y1) (.get f2 b2 y2) = (!decide (b1 = b2) || decide (y1 = y2)) := by
              rw [agL_get, if_pos (of_decide_eq_true c)]
            rw [this] at q2
            refine g_ite (fun c => ?_) fun c => ?_
            · rw [c, Bool.true_or] at q2
              exact q2
            · rw [c, Bool.false_or] at q2
              wtm_at "go"
              rw [decS]
              exact q2
          · wtm_at "go"
            refine fin ?_
            rw [agL_get, if_neg (of_decide_eq_false c)]
            exact decide_eq_false fun h => of_decide_eq_false c (by injection h)
        · wtm_at "go"
          exact fin (agL_ne fun f l x f' l' x' h => by rw [h.2] at c; exact absurd c (show ¬ decide (V.str "get" = V.str "get") = false by decide +kernel))
      · wtm_at "go"
        exact fin (agL_ne fun f l x f' l' x' h => by rw [h.1] at c; exact absurd c (show ¬ decide (V.str "get" = V.str "get") = false by decide +kernel))
end

def Goal (H0 H : Hp) (v : V) (g : Nat × Nat) : Prop := ∃ t p l1 l2 a1 a2, v = .ref t ∧ H t = some (.tup [.ref p, .ref l1, .ref l2]) ∧ H p = some (.tup [.int (g.1 : Nat), .int (g.2 : Nat)]) ∧ H l1 = some (.lst a1) ∧ a1.length ≤ 1 ∧ H l2 = some (.lst a2) ∧ a2.length ≤ 1 ∧ H0 l1 = none ∧ H0 l2 = none
theorem Goal.frm {H0 H H' : Hp} {v : V} {g : Nat × Nat} (f : Frm [] H H') (h : Goal H0 H v g) : Goal H0 H' v g := by
  obtain ⟨t, p, l1, l2, a1, a2, h0, h1, h2, h3, h4, h5, h6⟩ := h
  exact ⟨t, p, l1, l2, a1, a2, h0, f.get0 h1, f.get0 h2, f.get0 h3, h4, f.get0 h5, h6⟩
abbrev Goals (H0 H : Hp) (vs : List V) (gs : List (Nat × Nat)) : Prop := Paired (Goal H0 H) vs gs
theorem Goals.frm {H0 H H' : Hp} {vs : List V} {gs : List (Nat × Nat)} (f : Frm [] H H') (h : Goals H0 H vs gs) : Goals H0 H' vs gs := Paired.mapP h fun _ _ => Goal.frm f
theorem wo_at {Hk Hn : Hp} {l p : Addr} {o u : HO} (hn : Hk p = none) (hl : Hk l = some o) (hp : Hn p = some u) : wo Hn l p = some u := by
  rw [wo_ne (Ne.symm (ne_of_none hl hn))]
  exact hp
theorem goals_len {H0 H : Hp} {vs : List V} {gs : List (Nat × Nat)} (h : Goals H0 H vs gs) : vs.length = gs.length := Paired.length h
theorem ans_ok {f : FS} {a : Str} (h : a ∈ ansL f) : strOk a = true := by
  unfold ansL at h
  split at h
  · simp only [List.mem_cons, List.not_mem_nil, or_false] at h
    rcases h with rfl | rfl <;> decide +kernel
  · simp only [List.mem_cons, List.not_mem_nil, or_false] at h
    subst h
    decide +kernel
theorem ansL_le (f : FS) : (ansL f).length ≤ 2 := by
  unfold ansL
  split <;> decide
/-- while a list at lo is filled over the answers at la -/
structure PI1 (H : Hp) (la lo : Addr) (L : List Str) (gs : List (Nat × Nat)) (vs : List V) (H' : Hp) : Prop where
  fr : Frm [] H H'
  al : H' la = some (.lst (L.map V.str))
  ol : H' lo = some (.lst vs)
  go : Goals H (wo H' lo) vs gs
theorem PI1.few {H H' : Hp} {la lo : Addr} {L : List Str} {gs : List (Nat × Nat)} {vs : List V} (h : PI1 H la lo L gs vs H') (l : gs.length ≤ 100) : vs.length < 1000000 := by
  rw [goals_len h.go]; omega
theorem PI1.more {H H' Hn : Hp} {la lo : Addr} {L : List Str} {gs gs' : List (Nat × Nat)} {vs vs' : List V} (h : PI1 H la lo L gs vs H') (n0 : H lo = none) (ne : la ≠ lo) (f : Frm [] H' Hn) (g : Goals H (wo Hn lo) vs' gs') :
    PI1 H la lo L gs' vs' (upd Hn lo (.lst vs')) :=
  ⟨(h.fr.trans f).loc n0, by rw [upd_ne ne]; exact f.get0 h.al, upd_same, by rw [wo_upd]; exact g⟩
theorem flat_le {α β : Type} {f : α → List β} {n : Nat} (hf : ∀ a, (f a).length ≤ n) : ∀ l : List α, (l.flatMap f).length ≤ l.length * n
  | [] => by simp
  | a :: r => by
    have h1 := flat_le hf r
    have h2 := hf a
    simp only [List.flatMap_cons, List.length_append, List.length_cons, Nat.succ_mul]
    omega
local macro_rules | `(tactic| wtm_at "nw") => `(tactic| (refine Frm.back0 ?_ (by assumption); wtm_at "fr"))
local macro_rules | `(tactic| wtm_at "wa") => `(tactic| (apply wo_at; assumption; wtm_at "hp"; wtm_at "hp"))

section
variable {P : Program} {w : World} {K : PySem.W.Frag} {mg : Str → Option Value} {base : Heap} {C : Addr}
abbrev sPairSteps : Stmt := top 32
theorem scPairSteps : FnScope ["score", "end", "first", "second", "result", "answer", "one", "two", "goal"] ["score", "end", "first", "second"] (defScope sPairSteps) := ⟨rfl, rfl, rfl, by decide +kernel, rfl, by decide +kernel, by decide +kernel⟩
def pPair (K : PySem.W.Frag) (C : Addr) (sc en p p2 : V) (H : Hp) (Q : VK) (_ : XK) : Prop := ∃ e R z i j, Scr K C H sc e R ∧ en = .str z ∧ p = .int (i : Nat) ∧ p2 = .int (j : Nat) ∧ i ≤ R.length ∧ j ≤ R.length ∧
  ∀ l H2 vs, H l = none → Frm [] H H2 → H2 l = some (.lst vs) → Goals H (wo H2 l) vs (steps R z i j) → Q (.ref l) H2
theorem ok_pair (T : Tx K mg) (A : At K mg "pair_steps" sPairSteps ["score", "end", "first", "second"]) (C_look : Has P w K mg base CX0 "look" ["score", "position", "answer", "end"] 1 (sp4 (pLook K C)))
    (C_must_act : Has P w K mg base CX0 "must_act" ["score", "position", "end"] 2 (sp3 (pMust K C))) (C_answers : Has P w K mg base CX0 "answers" ["score", "position"] 1 (sp2 (pAnswers K C)))
    (C_after : Has P w K mg base CX0 "after" ["score", "position", "answer"] 1 (sp3 (pAfter K C))) : Has P w K mg base CX0 "pair_steps" ["score", "end", "first", "second"] 3 (sp4 (pPair K C)) := by
  refine has_mk A scPairSteps (fun vs H Q E h => by obtain ⟨_, _, _, _, rfl, _⟩ := h; rfl) fun f cdv A outer s H vs Q E hr h => ?_
  obtain ⟨sc, en, p, p2, rfl, e, R, z, i, j, hS, rfl, rfl, rfl, hi, hj, q⟩ := h
  refine ⟨_, (pss_cons (ps_set (i := 4) scPairSteps.nd rfl (Or.inl rfl) (pe_lst pa_nil)) (pss_cons (ps_if (pt_not (pt_val (pe_h0 C_must_act (hr.mono (by omega)) (pa_cons (pv 0) (pa_cons (pv 2) (pa_cons (pv 1) pa_nil)))))) (pss_one (ps_for PassesOwn.never rfl (pi_list (pe_h0 C_answers (hr.mono (by omega)) (pa_cons (pv 0) (pa_cons (pv 2) pa_nil)))) (pg_name (i := 5) scPairSteps.nd rfl (Or.inl rfl)) (pss_one (ps_expr (pe_bm PySem.F.plainAttrs_list PySem.F.slot_list_append PySem.F.type_list_append mt_append (pv 4) (pa_cons (pe_tup (pa_cons (pe_tup (pa_cons (pe_h0 C_after (hr.mono (by omega)) (pa_cons (pv 0) (pa_cons (pv 2) (pa_cons (pv 5) pa_nil)))) (pa_cons (pv 3) pa_nil))) (pa_cons (pe_lst (pa_cons (pe_tup (pa_cons (pv 2) (pa_cons (pv 5) pa_nil))) pa_nil)) (pa_cons (pe_lst pa_nil) pa_nil)))) pa_nil)))))) (pss_one (ps_if (pt_not (pt_val (pe_h0 C_must_act (hr.mono (by omega)) (pa_cons (pv 0) (pa_cons (pv 3) (pa_cons (pv 1) pa_nil)))))) (pss_one (ps_for PassesOwn.never rfl (pi_list (pe_h0 C_answers (hr.mono (by omega)) (pa_cons (pv 0) (pa_cons (pv 3) pa_nil)))) (pg_name (i := 5) scPairSteps.nd rfl (Or.inl rfl)) (pss_one (ps_expr (pe_bm PySem.F.plainAttrs_list PySem.F.slot_list_append PySem.F.type_list_append mt_append (pv 4) (pa_cons (pe_tup (pa_cons (pe_tup (pa_cons (pv 2) (pa_cons (pe_h0 C_after (hr.mono (by omega)) (pa_cons (pv 0) (pa_cons (pv 3) (pa_cons (pv 5) pa_nil)))) pa_nil))) (pa_cons (pe_lst pa_nil) (pa_cons (pe_lst (pa_cons (pe_tup (pa_cons (pv 3) (pa_cons (pv 5) pa_nil))) pa_nil)) pa_nil)))) pa_nil)))))) (pss_one (ps_if (pt_cmpR op_notIn_seq (pe_callB k_len (by rfl) T.len PySem.boot_len (pa_cons (pe_fld (pv 0) rfl) pa_nil)) (pe_tup (pa_cons (pv 2) (pa_cons (pv 3) pa_nil))) (by rfl)) (pss_one (ps_for PassesOwn.never rfl (pi_list (pe_h0 C_answers (hr.mono (by omega)) (pa_cons (pv 0) (pa_cons (pv 2) pa_nil)))) (pg_name (i := 6) scPairSteps.nd rfl (Or.inl rfl)) (pss_one (ps_for PassesOwn.never rfl (pi_list (pe_h0 C_answers (hr.mono (by omega)) (pa_cons (pv 0) (pa_cons (pv 3) pa_nil)))) (pg_name (i := 7) scPairSteps.nd rfl (Or.inl rfl)) (pss_one (ps_if (pt_cmpR (op_eqD hr.units) (pe_h0 C_look (hr.mono (by omega)) (pa_cons (pv 0) (pa_cons (pv 2) (pa_cons (pv 6) (pa_cons (pv 1) pa_nil))))) (pe_h0 C_look (hr.mono (by omega)) (pa_cons (pv 0) (pa_cons (pv 3) (pa_cons (pv 7) (pa_cons (pv 1) pa_nil))))) (nomark _)) (pss_cons (ps_set (i := 8) scPairSteps.nd rfl (Or.inl rfl) (pe_tup (pa_cons (pe_h0 C_after (hr.mono (by omega)) (pa_cons (pv 0) (pa_cons (pv 2) (pa_cons (pv 6) pa_nil)))) (pa_cons (pe_h0 C_after (hr.mono (by omega)) (pa_cons (pv 0) (pa_cons (pv 3) (pa_cons (pv 7) pa_nil)))) pa_nil)))) (pss_one (ps_expr (pe_bm PySem.F.plainAttrs_list PySem.F.slot_list_append PySem.F.type_list_append mt_append (pv 4) (pa_cons (pe_tup (pa_cons (pv 8) (pa_cons (pe_lst (pa_cons (pe_tup (pa_cons (pv 2) (pa_cons (pv 6) pa_nil))) pa_nil)) (pa_cons (pe_lst (pa_cons (pe_tup (pa_cons (pv 3) (pa_cons (pv 7) pa_nil))) pa_nil)) pa_nil)))) pa_nil))))) pss_nil)))))) pss_nil))))) (pss_one (ps_ret (pv 4))))), ?_⟩
  wtm_at "kk"
  refine g_st (σ' := [some (sc), some (.str z), some (.int (i : Nat)), some (.int (j : Nat)), none, none, none, none, none]) rfl ?_
  have g : GoodR R := by obtain ⟨_, _, _, _, _, _, _, _, _, _, _, _, _, _, g⟩ := hS; exact g
  -- result = []
  refine g_seq (g_asg (g_lst (g_nil (g_KL (Nat.zero_le _) fun l0 H1 n0 f1 h0 => ?_))))
  wtm_at "go"
  refine to3 ⟨e, R, i, z, hS.frm f1, rfl, rfl, hi, ?_⟩
  wtm_at "go"
  cases m1 : must R z i with
  | false =>
    have e1 : (!false) = true := rfl
    rw [if_pos e1]
    obtain ⟨r, hr1⟩ : ∃ r, R[i]? = some r := by
      cases q1 : R[i]? with
      | none => rw [must_none q1] at m1; cases m1
      | some r => exact ⟨r, rfl⟩
    have hst : steps R z i j = (ansL r.1).map fun a => (aft r a, j) := by
      unfold steps; rw [if_pos m1, hr1]
    rw [hst] at q
    wtm_at "go"
    refine to2 ⟨e, R, i, r, hS.frm f1, rfl, hr1, fun la H2 na f2 ha => ?_⟩
    have hne : la ≠ l0 := Ne.symm (ne_of_none h0 na)
    refine KForL.mk (xs := (ansL r.1).map V.str) (fun k σ H' => ∃ x5 vs, σ = [some sc, some (.str z), some (.int (i : Nat)), some (.int (j : Nat)), some (.ref l0), x5, none, none, none] ∧ PI1 H la l0 (ansL r.1) (((ansL r.1).take k).map fun a => (aft r a, j)) vs H')
      (fun k σ H' _ h => by obtain ⟨x5, vs, _, h⟩ := h; exact h.al) ⟨none, [], rfl, f1.trans f2, ha, f2.get0 h0, .nil⟩ (fun k x σ H' hk h => ?_) (fun σ H' h => ?_)
    · obtain ⟨x5, vs, rfl, h⟩ := h
      obtain ⟨a, hka, rfl⟩ := getMapStr hk
      have ham := List.mem_of_getElem? hka
      have fH := h.fr
      have hL := h.ol
      wtm_at "go"
      refine to3 ⟨e, R, i, r, a, hS.frm fH, rfl, rfl, hr1, ham, ?_⟩
      wtm_at "go"
      refine g_app (by wtm_at "hp") (h.few (by have := ansL_le r.1; rw [List.length_map, List.length_take]; omega)) ?_
      refine ⟨_, _, rfl, h.more n0 hne (by wtm_at "fr") ?_⟩
      rw [take_snoc hka, List.map_append]
      exact Paired.snoc (h.go.frm (wo_mono (by wtm_at "fr"))) ⟨_, _, _, _, _, _, rfl, by wtm_at "wa", by wtm_at "wa", by wtm_at "wa", Nat.le_refl _, by wtm_at "wa", Nat.zero_le _, by wtm_at "nw", by wtm_at "nw"⟩
    · obtain ⟨x5, vs, rfl, h⟩ := h
      wtm_at "go"
      rw [List.length_map, List.take_length] at h
      exact q l0 H' vs n0 h.fr h.ol h.go
  | true =>
    have e1 : (!true) = false := rfl
    rw [e1]
    wtm_at "go"
    refine to3 ⟨e, R, j, z, hS.frm f1, rfl, rfl, hj, ?_⟩
    wtm_at "go"
    cases m2 : must R z j with
    | false =>
      have e1 : (!false) = true := rfl
      rw [if_pos e1]
      obtain ⟨r, hr1⟩ : ∃ r, R[j]? = some r := by
        cases q1 : R[j]? with
        | none => rw [must_none q1] at m2; cases m2
        | some r => exact ⟨r, rfl⟩
      have hst : steps R z i j = (ansL r.1).map fun a => (i, aft r a) := by
        unfold steps; rw [if_neg (by rw [m1]; decide), if_pos m2, hr1]
      rw [hst] at q
      wtm_at "go"
      refine to2 ⟨e, R, j, r, hS.frm f1, rfl, hr1, fun la H2 na f2 ha => ?_⟩
      have hne : la ≠ l0 := Ne.symm (ne_of_none h0 na)
      refine KForL.mk (xs := (ansL r.1).map V.str) (fun k σ H' => ∃ x5 vs, σ = [some sc, some (.str z), some (.int (i : Nat)), some (.int (j : Nat)), some (.ref l0), x5, none, none, none] ∧ PI1 H la l0 (ansL r.1) (((ansL r.1).take k).map fun a => (i, aft r a)) vs H')
        (fun k σ H' _ h => by obtain ⟨x5, vs, _, h⟩ := h; exact h.al) ⟨none, [], rfl, f1.trans f2, ha, f2.get0 h0, .nil⟩ (fun k x σ H' hk h => ?_) (fun σ H' h => ?_)
      · obtain ⟨x5, vs, rfl, h⟩ := h
        obtain ⟨a, hka, rfl⟩ := getMapStr hk
        have ham := List.mem_of_getElem? hka
        have fH := h.fr
        have hL := h.ol
        wtm_at "go"
        refine to3 ⟨e, R, j, r, a, hS.frm fH, rfl, rfl, hr1, ham, ?_⟩
        wtm_at "go"
        refine g_app (by wtm_at "hp") (h.few (by have := ansL_le r.1; rw [List.length_map, List.length_take]; omega)) ?_
        refine ⟨_, _, rfl, h.more n0 hne (by wtm_at "fr") ?_⟩
        rw [take_snoc hka, List.map_append]
        exact Paired.snoc (h.go.frm (wo_mono (by wtm_at "fr"))) ⟨_, _, _, _, _, _, rfl, by wtm_at "wa", by wtm_at "wa", by wtm_at "wa", Nat.zero_le _, by wtm_at "wa", Nat.le_refl _, by wtm_at "nw", by wtm_at "nw"⟩
      · obtain ⟨x5, vs, rfl, h⟩ := h
        wtm_at "go"
        rw [List.length_map, List.take_length] at h
        exact q l0 H' vs n0 h.fr h.ol h.go
    | true =>
      have e1 : (!true) = false := rfl
      rw [e1]
      obtain ⟨a, dx, bl, st, nx, xs, ys, rfl, h2, c, h4, h6, hl, g⟩ := hS.top
      wtm_at "go"
      refine g_ninT (by wtm_at "hp") rfl rfl ?_
      rw [hl, inV_int]
      refine g_KB ?_
      refine g_ite (fun c => ?_) fun c => ?_
      · rw [Bool.not_eq_true', Bool.or_eq_false_iff, decide_eq_false_iff_not, decide_eq_false_iff_not] at c
        have hri : R[i]? = some (R[i]'(by omega)) := List.getElem?_eq_getElem (by omega)
        have hrj : R[j]? = some (R[j]'(by omega)) := List.getElem?_eq_getElem (by omega)
        generalize R[i]'(by omega) = r at hri
        generalize R[j]'(by omega) = t at hrj
        have gr := g.good r (List.mem_of_getElem? hri)
        have gt := g.good t (List.mem_of_getElem? hrj)
        have hst : steps R z i j = (ansL r.1).flatMap fun a => ((ansL t.1).filter fun b => decide (lk z i r.1 a = lk z j t.1 b)).map fun b => (aft r a, aft t b) := by
          unfold steps; rw [if_neg (by rw [m1]; decide), if_neg (by rw [m2]; decide), hri, hrj]
        rw [hst] at q
        have few : ∀ k : Nat, ∀ a m, (((ansL r.1).take k).flatMap (fun a => ((ansL t.1).filter fun b => decide (lk z i r.1 a = lk z j t.1 b)).map fun b => (aft r a, aft t b)) ++ (((ansL t.1).take m).filter fun b => decide (lk z i r.1 a = lk z j t.1 b)).map fun b => (aft r a, aft t b)).length ≤ 100 := by
          intro k a m
          have h1 := flat_le (n := 2) (f := fun a => ((ansL t.1).filter fun b => decide (lk z i r.1 a = lk z j t.1 b)).map fun b => (aft r a, aft t b)) (fun a => by
            rw [List.length_map]
            exact Nat.le_trans (List.length_filter_le _ _) (ansL_le _)) ((ansL r.1).take k)
          have h2 := ansL_le r.1
          have h3 := ansL_le t.1
          have h4 := List.length_filter_le (fun b => decide (lk z i r.1 a = lk z j t.1 b)) ((ansL t.1).take m)
          rw [List.length_take] at h1 h4
          rw [List.length_append, List.length_map]
          omega
        wtm_at "go"
        have fA := ‹Frm [] H1 _›
        refine to2 ⟨e, R, i, r, hS.frm (by wtm_at "fr"), rfl, hri, fun la H2 na f2 ha => ?_⟩
        have h00 : H2 l0 = some (.lst []) := by wtm_at "hp"
        have hne : la ≠ l0 := Ne.symm (ne_of_none (fA.get0 h0) na)
        have fH2 : Frm [] H H2 := by wtm_at "fr"
        refine KForL.mk (xs := (ansL r.1).map V.str) (fun k σ H' => ∃ x6 x7 x8 vs, σ = [some (.ref a), some (.str z), some (.int (i : Nat)), some (.int (j : Nat)), some (.ref l0), none, x6, x7, x8] ∧ PI1 H la l0 (ansL r.1) (((ansL r.1).take k).flatMap fun a => ((ansL t.1).filter fun b => decide (lk z i r.1 a = lk z j t.1 b)).map fun b => (aft r a, aft t b)) vs H')
          (fun k σ H' _ h => by obtain ⟨x6, x7, x8, vs, _, h⟩ := h; exact h.al) ⟨none, none, none, [], rfl, fH2, ha, h00, .nil⟩ (fun k x σ H' hk h => ?_) (fun σ H' h => ?_)
        · obtain ⟨x6, x7, x8, vs, rfl, h⟩ := h
          obtain ⟨a1, hka, rfl⟩ := getMapStr hk
          have ham := List.mem_of_getElem? hka
          have fH := h.fr
          have hL := h.ol
          wtm_at "go"
          wtm_at "go"
          refine to2 ⟨e, R, j, t, hS.frm fH, rfl, hrj, fun lb H3 nb f3 hb => ?_⟩
          have hneb : lb ≠ l0 := Ne.symm (ne_of_none hL nb)
          refine KForL.mk (xs := (ansL t.1).map V.str) (fun m σ H' => ∃ x7 x8 vs, σ = [some (.ref a), some (.str z), some (.int (i : Nat)), some (.int (j : Nat)), some (.ref l0), none, some (.str a1), x7, x8] ∧
              PI1 H la l0 (ansL r.1) (((ansL r.1).take k).flatMap (fun a => ((ansL t.1).filter fun b => decide (lk z i r.1 a = lk z j t.1 b)).map fun b => (aft r a, aft t b)) ++ (((ansL t.1).take m).filter fun b => decide (lk z i r.1 a1 = lk z j t.1 b)).map fun b => (aft r a1, aft t b)) vs H' ∧ H' lb = some (.lst ((ansL t.1).map V.str)))
            (fun m σ H' _ h => by obtain ⟨x7, x8, vs, _, _, h⟩ := h; exact h) ⟨x7, x8, vs, rfl, ⟨fH.trans f3, f3.get0 h.al, f3.get0 hL, by rw [List.take_zero, List.filter_nil, List.map_nil, List.append_nil]; exact h.go.frm (wo_mono f3)⟩, hb⟩ (fun m x σ H4 hm h' => ?_) (fun σ H4 h' => ?_)
          · obtain ⟨x7, x8, ws, rfl, h', hb'⟩ := h'
            obtain ⟨b1, hmb, rfl⟩ := getMapStr hm
            have hbm := List.mem_of_getElem? hmb
            have fH' := h'.fr
            have hL' := h'.ol
            wtm_at "go"
            refine to4 ⟨e, R, i, r, a1, z, hS.frm fH', rfl, rfl, rfl, hri, fun v1 H5 f5 d1 => ?_⟩
            wtm_at "go"
            refine to4 ⟨e, R, j, t, b1, z, hS.frm (by wtm_at "fr"), rfl, rfl, rfl, hrj, fun v2 H6 f6 d2 => ?_⟩
            have ok1 : strOk a1 = true := ans_ok ham
            have ok2 : strOk b1 = true := ans_ok hbm
            refine g_eqD (d1.frm f6) d2 (shL (lk_ok gr ok1)) (shL (lk_ok gt ok2)) ?_
            rw [eqvL (lk_ok gr ok1) (lk_ok gt ok2)]
            refine g_KB ?_
            refine g_ite (fun c => ?_) fun c => ?_
            · wtm_at "go"
              refine to3 ⟨e, R, i, r, a1, hS.frm (by wtm_at "fr"), rfl, rfl, hri, ham, ?_⟩
              wtm_at "go"
              refine to3 ⟨e, R, j, t, b1, hS.frm (by wtm_at "fr"), rfl, rfl, hrj, hbm, ?_⟩
              wtm_at "go"
              refine g_app (by wtm_at "hp") (h'.few (few _ _ _)) ?_
              refine ⟨_, _, _, rfl, h'.more n0 hne (by wtm_at "fr") ?_, by rw [upd_ne hneb]; wtm_at "hp"⟩
              have ef : ([b1].filter fun b => decide (lk z i r.1 a1 = lk z j t.1 b)) = [b1] := by simp [of_decide_eq_true c]
              rw [take_snoc hmb, List.filter_append, ef, List.map_append, ← List.append_assoc]
              exact Paired.snoc (h'.go.frm (wo_mono (by wtm_at "fr"))) ⟨_, _, _, _, _, _, rfl, by wtm_at "wa", by wtm_at "wa", by wtm_at "wa", Nat.le_refl _, by wtm_at "wa", Nat.le_refl _, by wtm_at "nw", by wtm_at "nw"⟩
            · wtm_at "go"
              refine ⟨_, _, _, rfl, ⟨by wtm_at "fr", by have := h'.al; wtm_at "hp", by wtm_at "hp", ?_⟩, by wtm_at "hp"⟩
              have ef : ([b1].filter fun b => decide (lk z i r.1 a1 = lk z j t.1 b)) = [] := by simp [of_decide_eq_false c]
              rw [take_snoc hmb, List.filter_append, ef, List.append_nil]
              exact h'.go.frm (wo_mono (by wtm_at "fr"))
          · obtain ⟨x7, x8, ws, rfl, h', hb'⟩ := h'
            refine ⟨_, _, _, ws, rfl, ?_⟩
            rw [List.length_map, List.take_length] at h'
            rw [take_snoc hka, List.flatMap_append, List.flatMap_cons, List.flatMap_nil, List.append_nil]
            exact h'
        · obtain ⟨x6, x7, x8, vs, rfl, h⟩ := h
          wtm_at "go"
          rw [List.length_map, List.take_length] at h
          exact q l0 H' vs n0 h.fr h.ol h.go
      · rw [Bool.not_eq_false', Bool.or_eq_true, decide_eq_true_eq, decide_eq_true_eq] at c
        have hst : steps R z i j = [] := by
          unfold steps
          rw [if_neg (by rw [m1]; decide), if_neg (by rw [m2]; decide)]
          rcases c with rfl | rfl
          · rw [List.getElem?_eq_none (Nat.le_refl _)]
          · rw [List.getElem?_eq_none (i := R.length) (Nat.le_refl _)]
            cases R[i]? <;> rfl
        rw [hst] at q
        have fA := ‹Frm [] H1 _›
        have h0' := fA.get0 h0
        wtm_at "go"
        exact q l0 _ [] n0 (by wtm_at "fr") h0' .nil
end

section
variable {P : Program} {w : World} {K : PySem.W.Frag} {mg : Str → Option Value} {base : Heap} {C : Addr}
abbrev sTraceBack : Stmt := top 33
theorem scTraceBack : FnScope ["came", "pair", "first", "second", "before", "one", "two"] ["came", "pair"] (defScope sTraceBack) := ⟨rfl, rfl, rfl, by decide +kernel, rfl, by decide +kernel, by decide +kernel⟩
def pTrace (cm pr : V) (H : Hp) (Q : VK) (_ : XK) : Prop := ∃ (c : Addr) (Hw : Hp) (q : List (Nat × Nat)) (i : Nat) (g : Nat × Nat), cm = .ref c ∧ Came H Hw c q ∧ Frm [] Hw H ∧ PairAt H pr g ∧ q[i]? = some g ∧ q.length ≤ 30000 ∧ ∀ p x y H2, Frm [] H H2 → H2 p = some (.tup [x, y]) → Q (.ref p) H2
structure TrI (H : Hp) (c : Addr) (q : List (Nat × Nat)) (i : Nat) (pr : V) (l1 l2 : Addr) (H' : Hp) : Prop where
  fr : Frm [] H H'
  pr : ∃ g, PairAt H' pr g ∧ q[i]? = some g
  l1 : ∃ xs, H' l1 = some (.lst xs) ∧ xs.length + i ≤ 30000
  l2 : ∃ xs, H' l2 = some (.lst xs) ∧ xs.length + i ≤ 30000
theorem ok_trace (T : Tx K mg) (A : At K mg "trace_back" sTraceBack ["came", "pair"]) : Has P w K mg base CX0 "trace_back" ["came", "pair"] 1 (sp2 pTrace) := by
  refine has_mk A scTraceBack (fun vs H Q E h => by obtain ⟨_, _, rfl, _⟩ := h; rfl) fun f cdv A outer s H vs Q E hr h => ?_
  obtain ⟨cm, pr, rfl, c, Hw, q, i, g, rfl, hC, hw, hp, hi, hq, qq⟩ := h
  refine ⟨_, (pss_cons (ps_set (i := 2) scTraceBack.nd rfl (Or.inl rfl) (pe_lst pa_nil)) (pss_cons (ps_set (i := 3) scTraceBack.nd rfl (Or.inl rfl) (pe_lst pa_nil)) (pss_cons (ps_while PassesOwn.never (pt_cmpR k_notN (pe_dget (hu_of hr) (pv 0) (pv 1) (fun _ _ => rfl)) pe_non (nomark _)) (pss_cons (ps_asg (pe_dget (hu_of hr) (pv 0) (pv 1) (fun _ _ => rfl)) (pg_tup rfl (pgs_cons (pg_name (i := 4) scTraceBack.nd rfl (Or.inl rfl)) (pgs_cons (pg_name (i := 5) scTraceBack.nd rfl (Or.inl rfl)) (pgs_cons (pg_name (i := 6) scTraceBack.nd rfl (Or.inl rfl)) pgs_nil))))) (pss_cons (ps_set (i := 2) scTraceBack.nd rfl (Or.inl rfl) (pe_op op_cat (pv 5) (pv 2))) (pss_cons (ps_set (i := 3) scTraceBack.nd rfl (Or.inl rfl) (pe_op op_cat (pv 6) (pv 3))) (pss_one (ps_set (i := 1) scTraceBack.nd rfl (Or.inl rfl) (pv 4))))))) (pss_one (ps_ret (pe_tup (pa_cons (pv 2) (pa_cons (pv 3) pa_nil)))))))), ?_⟩
  wtm_at "kk"
  refine g_st (σ' := [some (.ref c), some (pr), none, none, none, none, none]) rfl ?_
  wtm_at "go"
  have hil : i < q.length := (List.getElem?_eq_some_iff.mp hi).1
  refine g_while (fun m σ H' => ∃ pr l1 l2 x4 x5 x6, σ = [some (.ref c), some pr, some (.ref l1), some (.ref l2), x4, x5, x6] ∧ TrI H c q m pr l1 l2 H') i
    ⟨pr, _, _, none, none, none, rfl, by wtm_at "fr", ⟨g, hp.frm (by wtm_at "fr"), hi⟩, ⟨[], by wtm_at "hp", by simp; omega⟩, ⟨[], by wtm_at "hp", by simp; omega⟩⟩ (fun m σ H' w => ?_)
  obtain ⟨pr, l1, l2, x4, x5, x6, rfl, w⟩ := w
  obtain ⟨g, ⟨p, rfl, hp⟩, hm⟩ := w.pr
  obtain ⟨xs, hx, hxl⟩ := w.l1
  obtain ⟨ys, hy, hyl⟩ := w.l2
  have fH := w.fr
  obtain ⟨kvs, h1, h2, h3, h4⟩ := (hC.frm fH (hw.trans fH)).d
  obtain ⟨v, ev, b⟩ := h4 m g hm
  wtm_at "go"
  refine g_dgetT (k := kk g) (by wtm_at "hp") hp ev ?_
  rcases b with ⟨rfl, rfl⟩ | ⟨j, h, hj, hjq, t, p2, o1, o2, a1, a2, rfl, ht, hp2, ho1, ha1, ho2, ha2⟩
  · wtm_at "go"
    exact qq _ _ _ _ (by wtm_at "fr") (by wtm_at "hp")
  · wtm_at "go"
    refine g_turn ?_
    wtm_at "go"
    refine g_dgetT (k := kk g) (by wtm_at "hp") hp ev ?_
    wtm_at "go"
    refine g_catL (by wtm_at "hp") (by wtm_at "hp") (by omega) (fun q1 H1 n1 f1 e1 => ?_)
    wtm_at "go"
    refine g_catL (by wtm_at "hp") (by wtm_at "hp") (by omega) (fun q2 H2 n2 f2 e2 => ?_)
    wtm_at "go"
    exact ⟨j, hj, _, _, _, _, _, _, rfl, by wtm_at "fr", ⟨h, hp2.frm (by wtm_at "fr"), hjq⟩, ⟨_, by wtm_at "hp", by rw [List.length_append]; omega⟩, ⟨_, by wtm_at "hp", by rw [List.length_append]; omega⟩⟩
abbrev sWitnessFor : Stmt := top 34
theorem scWitnessFor : FnScope ["score", "end", "came", "queue", "at", "pair", "goal", "one", "two"] ["score", "end"] (defScope sWitnessFor) := ⟨rfl, rfl, rfl, by decide +kernel, rfl, by decide +kernel, by decide +kernel⟩
def pWitF (K : PySem.W.Frag) (C : Addr) (sc en : V) (H : Hp) (Q : VK) (_ : XK) : Prop := ∃ e R z, Scr K C H sc e R ∧ en = .str z ∧ (Bad R z → ∀ p x y H2, Frm [] H H2 → H2 p = some (.tup [x, y]) → Q (.ref p) H2) ∧ (¬ Bad R z → ∀ H2, Frm [] H H2 → Q .non H2)
/-- the state of the search -/
structure BfI (H : Hp) (c l : Addr) (R : List Row) (z : Str) (q : List (Nat × Nat)) (k : Nat) (H' : Hp) : Prop where
  fr : Frm [] H H'
  cm : Came H' (woS [c, l] H') c q
  ql : ∃ qs, H' l = some (.lst qs) ∧ Paired (PairAt (woS [c, l] H')) qs q
  bi : BInv R z q k
theorem BfI.frm {H H' H2 : Hp} {c l : Addr} {R : List Row} {z : Str} {q : List (Nat × Nat)} {k : Nat} (h : BfI H c l R z q k H') (f : Frm [] H' H2) : BfI H c l R z q k H2 := by
  have fw : Frm [] (woS [c, l] H') (woS [c, l] H2) := woS_mono f fun _ h => nomatch h
  obtain ⟨qs, h1, h2⟩ := h.ql
  exact ⟨h.fr.trans f, h.cm.frm f fw, ⟨qs, f.get0 h1, Paired.mapP h2 fun _ _ x => x.frm fw⟩, h.bi⟩
/-- one more pair -/
theorem BfI.add {H H' H2 : Hp} {c l t p gp l1 l2 : Addr} {R : List Row} {z : Str} {q : List (Nat × Nat)} {k i : Nat} {g s : Nat × Nat} {a1 a2 : List V} (h : BfI H c l R z q k H') (G : GoodR R) (nc : H c = none) (nl : H l = none) (ncl : c ≠ l) (hk : k ≤ q.length)
    (hg : q[i]? = some g) (hs : s ∈ steps R z g.1 g.2) (hn : s ∉ q) (f : Frm [] H' H2) (nt : H' t = none) (ht : H2 t = some (.tup [.ref p, .ref l1, .ref l2])) (hp : PairAt (woS [c, l] H') (.ref p) g) (hgp : PairAt (woS [c, l] H') (.ref gp) s)
    (e1 : woS [c, l] H' l1 = some (.lst a1)) (b1 : a1.length ≤ 1) (e2 : woS [c, l] H' l2 = some (.lst a2)) (b2 : a2.length ≤ 1) {kvs : List (List Key × V)} {qs : List V} (ec : H2 c = some (.dT kvs)) (el : H2 l = some (.lst qs)) :
    BfI H c l R z (q ++ [s]) k (upd (upd H2 c (.dT (putK kvs (kk s) (.ref t)))) l (.lst (qs ++ [.ref gp]))) := by
  have h2 := h.frm f
  have fw : Frm [] (woS [c, l] H') (woS [c, l] H2) := woS_mono f fun _ h => nomatch h
  have ew : woS [c, l] (upd (upd H2 c (.dT (putK kvs (kk s) (.ref t)))) l (.lst (qs ++ [.ref gp]))) = woS [c, l] H2 := by
    rw [woS_upd (by simp), woS_upd (by simp)]
  obtain ⟨qs', q1, q2⟩ := h2.ql
  cases q1.symm.trans el
  refine ⟨(h2.fr.loc nc).loc nl, ?_, ⟨_, upd_same, ?_⟩, h.bi.add G (List.mem_of_getElem? hg) hs hn hk⟩
  · rw [ew]
    have hb : Back (woS [c, l] H2) (q ++ [s]) q.length (.ref t) := by
      have hil := (List.getElem?_eq_some_iff.mp hg).1
      refine .inr ⟨i, g, hil, by rw [List.getElem?_append_left hil]; exact hg, t, .ref p, l1, l2, a1, a2, rfl, ?_, hp.frm fw, fw.get0 e1, b1, fw.get0 e2, b2⟩
      obtain ⟨k1, z1, _⟩ := h.cm.d
      obtain ⟨k2, z2, _⟩ := h.ql
      rw [woS_ne]
      · exact ht
      · intro w
        rcases List.mem_cons.mp w with w | w
        · rw [w, z1] at nt; cases nt
        · rw [List.mem_singleton.mp w, z2] at nt; cases nt
    have := h2.cm.add ec hn hb (Hn := H2)
    obtain ⟨kv, k1, k2⟩ := this.d
    exact ⟨kv, by rw [upd_ne ncl]; exact k1, k2⟩
  · rw [ew]
    exact Paired.snoc q2 (hgp.frm fw)
theorem Goal.out {H1 H2 : Hp} {v : V} {g : Nat × Nat} {lv c l : Addr} {kvs : List (List Key × V)} {qs : List V} (f : Frm [] H1 H2) (hc : H1 c = some (.dT kvs)) (hl : H1 l = some (.lst qs)) (h : Goal H1 (wo H2 lv) v g) : Goal H1 (woS [c, l] H2) v g := by
  obtain ⟨t, p, l1, l2, a1, a2, h0, h1, h2, h3, h4, h5, h6, n1, n2⟩ := h
  have T : ∀ a xs, H2 a = some (.tup xs) → woS [c, l] H2 a = some (.tup xs) := fun a xs e => by
    rw [woS_ne]
    · exact e
    · intro w
      rcases List.mem_cons.mp w with w | w
      · rw [w, f.get0 hc] at e; cases e
      · rw [List.mem_singleton.mp w, f.get0 hl] at e; cases e
  have L : ∀ a xs, H1 a = none → H2 a = some (.lst xs) → woS [c, l] H2 a = some (.lst xs) := fun a xs n e => by
    rw [woS_ne]
    · exact e
    · intro w
      rcases List.mem_cons.mp w with w | w
      · rw [w, hc] at n; cases n
      · rw [List.mem_singleton.mp w, hl] at n; cases n
  exact ⟨t, p, l1, l2, a1, a2, h0, T _ _ (wo_back h1).2, T _ _ (wo_back h2).2, L _ _ n1 (wo_back h3).2, h4, L _ _ n2 (wo_back h5).2, h6, n1, n2⟩
theorem ok_witf (T : Tx K mg) (A : At K mg "witness_for" sWitnessFor ["score", "end"]) (C_must_act : Has P w K mg base CX0 "must_act" ["score", "position", "end"] 2 (sp3 (pMust K C)))
    (C_agree : Has P w K mg base CX0 "agree" ["score", "end", "first", "second"] 2 (sp4 (pAgree K C))) (C_trace_back : Has P w K mg base CX0 "trace_back" ["came", "pair"] 1 (sp2 pTrace))
    (C_pair_steps : Has P w K mg base CX0 "pair_steps" ["score", "end", "first", "second"] 3 (sp4 (pPair K C))) : Has P w K mg base CX0 "witness_for" ["score", "end"] 4 (sp2 (pWitF K C)) := by
  refine has_mk A scWitnessFor (fun vs H Q E h => by obtain ⟨_, _, rfl, _⟩ := h; rfl) fun f cdv A outer s H vs Q E hr h => ?_
  obtain ⟨sc, en, rfl, e, R, z, hS, rfl, qb, qn⟩ := h
  have G : GoodR R := by obtain ⟨_, _, _, _, _, _, _, _, _, _, _, _, _, _, g⟩ := hS; exact g
  refine ⟨_, (pss_cons (ps_set (i := 2) scWitnessFor.nd rfl (Or.inl rfl) (pe_disp1 (hu0 hr) (pe_tup (pa_cons pe_int (pa_cons pe_int pa_nil))) pe_non)) (pss_cons (ps_set (i := 3) scWitnessFor.nd rfl (Or.inl rfl) (pe_lst (pa_cons (pe_tup (pa_cons pe_int (pa_cons pe_int pa_nil))) pa_nil))) (pss_cons (ps_set (i := 4) scWitnessFor.nd rfl (Or.inl rfl) pe_int) (pss_cons (ps_while PassesOwn.never (pt_cmpR k_lt (pv 4) (pe_callB k_len (by rfl) T.len PySem.boot_len (pa_cons (pv 3) pa_nil)) (nomark _)) (pss_cons (ps_set (i := 5) scWitnessFor.nd rfl (Or.inl rfl) (pe_ix ix_list (pv 3) (pv 4) (fun _ _ => rfl))) (pss_cons (ps_aug (i := 4) scWitnessFor.nd rfl (Or.inl rfl) pe_int ip_add) (pss_cons (ps_if (PW.pt (pw_and (pt_val (pe_h0 C_must_act (hr.mono (by omega)) (pa_cons (pv 0) (pa_cons (pe_ix ix_tup (pv 5) pe_int (fun _ _ => rfl)) (pa_cons (pv 1) pa_nil))))) (pw_and1 (pt_val (pe_h0 C_must_act (hr.mono (by omega)) (pa_cons (pv 0) (pa_cons (pe_ix ix_tup (pv 5) pe_int (fun _ _ => rfl)) (pa_cons (pv 1) pa_nil)))))))) (pss_one (ps_if (pt_not (pt_val (pe_h0 C_agree (hr.mono (by omega)) (pa_cons (pv 0) (pa_cons (pv 1) (pa_cons (pe_ix ix_tup (pv 5) pe_int (fun _ _ => rfl)) (pa_cons (pe_ix ix_tup (pv 5) pe_int (fun _ _ => rfl)) pa_nil))))))) (pss_one (ps_ret (pe_h0 C_trace_back (hr.mono (by omega)) (pa_cons (pv 2) (pa_cons (pv 5) pa_nil))))) pss_nil)) pss_nil) (pss_one (ps_for PassesOwn.never rfl (pi_list (pe_h0 C_pair_steps (hr.mono (by omega)) (pa_cons (pv 0) (pa_cons (pv 1) (pa_cons (pe_ix ix_tup (pv 5) pe_int (fun _ _ => rfl)) (pa_cons (pe_ix ix_tup (pv 5) pe_int (fun _ _ => rfl)) pa_nil)))))) (pg_tup rfl (pgs_cons (pg_name (i := 6) scWitnessFor.nd rfl (Or.inl rfl)) (pgs_cons (pg_name (i := 7) scWitnessFor.nd rfl (Or.inl rfl)) (pgs_cons (pg_name (i := 8) scWitnessFor.nd rfl (Or.inl rfl)) pgs_nil)))) (pss_one (ps_if (pt_cmp (pc_dnotin (hu_of hr) (pv 6) (pv 2))) (pss_cons (ps_dput (hu_of hr) (pv 2) (pv 6) (pe_tup (pa_cons (pv 5) (pa_cons (pv 7) (pa_cons (pv 8) pa_nil)))) rfl) (pss_one (ps_expr (pe_bm PySem.F.plainAttrs_list PySem.F.slot_list_append PySem.F.type_list_append mt_append (pv 3) (pa_cons (pv 6) pa_nil))))) pss_nil)))))))) (pss_one (ps_ret pe_non)))))), ?_⟩
  wtm_at "kk"
  refine g_st (σ' := [some (sc), some (.str z), none, none, none, none, none, none, none]) rfl ?_
  refine g_seq (g_asg (g_disp1 fun c nc => ?_))
  wtm_at "go"
  have fc := ‹Frm [] (upd H c (.dT [])) _›
  have hz := ‹_ = some (HO.tup [V.int 0, V.int 0])›
  have ec := fc.get0 upd_same
  refine ⟨ec, _, [Sum.inl 0, Sum.inl 0], rfl, hz, ?_⟩
  have fu : Frm [] H (upd _ c (.dT [([Sum.inl 0, Sum.inl 0], V.non)])) := ((Frm.new nc).trans fc).loc nc
  have euc : upd _ c (.dT [([Sum.inl 0, Sum.inl 0], V.non)]) c = _ := upd_same (H := ‹Hp›)
  wtm_at "go"
  rename_i Hq1 nq1 fq1 hq1 l Hq2 nl fq2 hl
  have nlH : H l = none := Frm.back0 (by wtm_at "fr") nl
  have ncl : c ≠ l := fun e => by rw [← e] at nl; rw [(fq1.get0 upd_same : Hq1 c = _)] at nl; cases nl
  have hS' := hS
  refine g_while (fun m σ H' => ∃ k q x5 x6 x7 x8, σ = [some sc, some (.str z), some (.ref c), some (.ref l), some (.int (k : Nat)), x5, x6, x7, x8] ∧ BfI H c l R z q k H' ∧ k ≤ q.length ∧ m + k = 22801) 22801
    ⟨0, [(0, 0)], none, none, none, none, rfl, ⟨by wtm_at "fr", ?_, ?_, BInv.start R z⟩, Nat.zero_le _, rfl⟩ (fun m σ H' w => ?_)
  · refine ⟨_, by wtm_at "hp", Nat.le_refl _, fun g => ?_, fun i g e => ?_⟩
    · by_cases h : g = (0, 0)
      · subst h; simp [valV, kk]
      · have : ¬ [Sum.inl 0, Sum.inl 0] = kk g := fun e => h (kk_inj (h := (0, 0)) e.symm)
        rw [valV_neg this, valV_nil]
        simp [h]
    · cases i with
      | zero =>
        simp only [List.getElem?_cons_zero, Option.some.injEq] at e
        subst e
        exact ⟨.non, valV_pos rfl, .inl ⟨rfl, rfl⟩⟩
      | succ i => simp at e
  · refine ⟨_, hl, .cons ⟨_, rfl, ?_⟩ .nil⟩
    rw [woS_ne]
    · wtm_at "hp"
    · intro w
      rcases List.mem_cons.mp w with w | w
      · have := fq1.get0 (upd_same (a := c)); rw [← w, hq1] at this; cases this
      · rw [List.mem_singleton.mp w, nl] at hq1; cases hq1
  obtain ⟨k, q, x5, x6, x7, x8, rfl, w, hk, hm⟩ := w
  obtain ⟨qs, hqs, pq⟩ := w.ql
  have hlen : qs.length = q.length := Paired.length pq
  have few := w.bi.few G
  have fH := w.fr
  wtm_at "go"
  rw [hlen]
  refine g_ite (fun c1 => ?_) fun c1 => ?_
  · have hkl : k < q.length := by have := of_decide_eq_true c1; omega
    refine g_turn ?_
    have hg : q[k]? = some q[k] := List.getElem?_eq_getElem hkl
    generalize q[k] = g at hg
    obtain ⟨v, ev, p, rfl, hp⟩ := Paired.get pq hg
    have hp' := (woS_back hp).2
    obtain ⟨hg1, hg2⟩ := w.bi.le g (List.mem_of_getElem? hg)
    with_reducible refine g_seq ?_
    wtm_at "gx"
    refine g_ixL (by wtm_at "hp") (atI_nat ev) ?_
    wtm_at "gx"
    with_reducible refine g_seq ?_
    wtm_at "gx"
    with_reducible refine g_seqM (fun σ1 H1 => σ1 = [some sc, some (.str z), some (.ref c), some (.ref l), some (.int (k + 1 : Nat)), some (.ref p), x6, x7, x8] ∧ Frm [] H' H1 ∧ (must R z g.1 = true → must R z g.2 = true → agr R z g.1 g.2 = true)) (fun σ1 H1 h1 => ?_) (fun N hN => ?_)
    · obtain ⟨rfl, f1, hagr⟩ := h1
      wtm_at "go"
      refine to4 ⟨e, R, z, g.1, g.2, hS.frm (fH.trans f1), rfl, rfl, rfl, hg1, hg2, fun lv H2 vs nv f2 hv pv => ?_⟩
      have w2 := (w.frm f1).frm f2
      obtain ⟨kc1, hc1, _⟩ := (w.frm f1).cm.d
      obtain ⟨kl1, hl1, _⟩ := (w.frm f1).ql
      have nvc : lv ≠ c := by rintro rfl; rw [nv] at hc1; cases hc1
      have nvl : lv ≠ l := by rintro rfl; rw [nv] at hl1; cases hl1
      have pg : Goals H1 (woS [c, l] H2) vs (steps R z g.1 g.2) := Paired.mapP pv fun _ _ h => h.out f2 hc1 hl1
      have hpw : PairAt (woS [c, l] H2) (.ref p) g := PairAt.frm (woS_mono f2 fun _ h => nomatch h) (PairAt.frm (woS_mono f1 fun _ h => nomatch h) ⟨p, rfl, hp⟩)
      refine KForL.mk (xs := vs) (fun t σ H'' => ∃ q' x6 x7 x8, σ = [some sc, some (.str z), some (.ref c), some (.ref l), some (.int (k + 1 : Nat)), some (.ref p), x6, x7, x8] ∧ BfI H c l R z q' k H'' ∧ q'[k]? = some g ∧ (∀ s ∈ (steps R z g.1 g.2).take t, s ∈ q') ∧
          H'' lv = some (.lst vs) ∧ Goals H1 (woS [c, l] H'') vs (steps R z g.1 g.2) ∧ PairAt (woS [c, l] H'') (.ref p) g)
        (fun t σ H'' _ h => by obtain ⟨_, _, _, _, _, _, _, _, h, _⟩ := h; exact h) ⟨q, x6, x7, x8, rfl, w2, hg, by simp, hv, pg, hpw⟩ (fun t x σ H3 ht h => ?_) (fun σ H3 h => ?_)
      · obtain ⟨q', x6, x7, x8, rfl, w3, hg3, hin, hv3, pg3, hp3⟩ := h
        obtain ⟨s, hs, hgoal⟩ := Paired.getL pg3 ht
        have hsm := List.mem_of_getElem? hs
        obtain ⟨t0, gp, l1, l2, a1, a2, rfl, e0, e1, e2, b1, e3, b2, _, _⟩ := hgoal
        have e0' := (woS_back e0).2
        have e1' := (woS_back e1).2
        obtain ⟨kvs, k1, k2, k3, k4⟩ := w3.cm.d
        obtain ⟨qs3, z1, z2⟩ := w3.ql
        have few3 := w3.bi.few G
        have hk3 : k ≤ q'.length := Nat.le_of_lt (List.getElem?_eq_some_iff.mp hg3).1
        have hl3 : qs3.length = q'.length := Paired.length z2
        wtm_at "go"
        refine g_dninT (k := kk s) (by wtm_at "hp") e1' ?_
        wtm_at "go"
        refine g_ite (fun c2 => ?_) fun c2 => ?_
        · have hn : s ∉ q' := fun z => by rw [(k3 s).mpr z] at c2; cases c2
          wtm_at "go"
          rename_i tn Hn nn fn hn'
          refine g_dputT (kvs := kvs) (k := kk s) (by wtm_at "hp") (fn.tupS e1') (by omega) ?_
          have hL : upd Hn c (.dT (putK kvs (kk s) (.ref tn))) l = some (.lst qs3) := by rw [upd_ne ncl.symm]; wtm_at "hp"
          wtm_at "go"
          refine g_app hL (by omega) ?_
          have ew : woS [c, l] (upd (upd Hn c (.dT (putK kvs (kk s) (.ref tn)))) l (.lst (qs3 ++ [.ref gp]))) = woS [c, l] Hn := by
            rw [woS_upd (by simp), woS_upd (by simp)]
          have fw : Frm [] (woS [c, l] H3) (woS [c, l] Hn) := woS_mono fn fun _ h => nomatch h
          refine ⟨q' ++ [s], _, _, _, rfl, w3.add G nc nlH ncl hk3 hg3 hsm hn fn nn hn' hp3 ⟨gp, rfl, e1⟩ e2 b1 e3 b2 (fn.get0 k1) (fn.get0 z1), ?_, ?_, ?_, ?_, ?_⟩
          · rw [List.getElem?_append_left (List.getElem?_eq_some_iff.mp hg3).1]; exact hg3
          · intro y hy
            rw [take_snoc hs] at hy
            rcases List.mem_append.mp hy with hy | hy
            · exact List.mem_append_left _ (hin y hy)
            · exact List.mem_append_right _ hy
          · rw [upd_ne nvl, upd_ne nvc]; exact fn.get0 hv3
          · rw [ew]; exact Paired.mapP pg3 fun _ _ h => h.frm fw
          · rw [ew]; exact hp3.frm fw
        · have hn : s ∈ q' := (k3 s).mp (by simpa using c2)
          wtm_at "go"
          refine ⟨q', _, _, _, rfl, w3, hg3, fun y hy => ?_, hv3, pg3, hp3⟩
          rw [take_snoc hs] at hy
          rcases List.mem_append.mp hy with hy | hy
          · exact hin y hy
          · rw [List.mem_singleton.mp hy]; exact hn
      · obtain ⟨q', x6, x7, x8, rfl, w3, hg3, hin, hv3, pg3, hp3⟩ := h
        rw [Paired.length pg3, List.take_length] at hin
        exact ⟨m - 1, by omega, k + 1, q', _, _, _, _, rfl, ⟨w3.fr, w3.cm, w3.ql, w3.bi.next hg3 hagr hin⟩, (List.getElem?_eq_some_iff.mp hg3).1, by omega⟩
    · wtm_at "go"
      refine to3 ⟨e, R, g.1, z, hS.frm fH, rfl, rfl, hg1, ?_⟩
      wtm_at "go"
      refine g_ite (fun m1 => ?_) fun m1 => ?_
      · wtm_at "go"
        refine to3 ⟨e, R, g.2, z, hS.frm fH, rfl, rfl, hg2, ?_⟩
        wtm_at "go"
        refine g_ite (fun m2 => ?_) fun m2 => ?_
        · wtm_at "go"
          refine to4 ⟨e, R, z, g.1, g.2, hS.frm fH, rfl, rfl, rfl, hg1, hg2, fun H2 f2 => ?_⟩
          wtm_at "go"
          refine g_ite (fun m3 => ?_) fun m3 => ?_
          · wtm_at "go"
            have w2 := w.frm f2
            refine to2 ⟨c, woS [c, l] H2, q, k, g, rfl, w2.cm, woS_frm, ⟨p, rfl, f2.get0 hp'⟩, hg, by omega, fun p x y H3 f3 e3 => ?_⟩
            exact qb ⟨g.1, g.2, w.bi.re g (List.mem_of_getElem? hg), m1, m2, by simpa using m3⟩ p x y H3 (by wtm_at "fr") e3
          · wtm_at "go"
            exact hN _ _ ⟨rfl, f2, fun _ _ => by simpa using m3⟩
        · wtm_at "go"
          exact hN _ _ ⟨rfl, Frm.refl _ _, fun _ h => by rw [m2] at h; cases h⟩
      · rw [if_neg (by decide)]
        wtm_at "go"
        exact hN _ _ ⟨rfl, Frm.refl _ _, fun h => by rw [m1] at h; cases h⟩
  · have hkl : ¬ k < q.length := by have := of_decide_eq_false c1; omega
    obtain rfl : k = q.length := by omega
    wtm_at "go"
    exact qn w.bi.clear H' fH
abbrev sWitness : Stmt := top 35
theorem scWitness : FnScope ["score", "end", "found"] ["score"] (defScope sWitness) := ⟨rfl, rfl, rfl, by decide +kernel, rfl, by decide +kernel, by decide +kernel⟩
def pWit (K : PySem.W.Frag) (C : Addr) (sc : V) (H : Hp) (Q : VK) (_ : XK) : Prop := ∃ (e : Addr) (R : List Row) (Es : List Str), Scr K C H sc (.ref e) R ∧ H e = some (.tup (Es.map V.str)) ∧ ((∃ z ∈ Es, Bad R z) → ∀ p H2, Frm [] H H2 → Q (.ref p) H2) ∧ ((∀ z ∈ Es, ¬ Bad R z) → ∀ H2, Frm [] H H2 → Q .non H2)
theorem ok_witness (T : Tx K mg) (A : At K mg "witness" sWitness ["score"]) (C_witness_for : Has P w K mg base CX0 "witness_for" ["score", "end"] 4 (sp2 (pWitF K C))) : Has P w K mg base CX0 "witness" ["score"] 5 (sp1 (pWit K C)) := by
  refine has_mk A scWitness (fun vs H Q E h => by obtain ⟨_, rfl, _⟩ := h; rfl) fun f cdv A outer s H vs Q E hr h => ?_
  obtain ⟨sc, rfl, e, R, Es, hS, hE, qb, qn⟩ := h
  refine ⟨_, (pss_cons (ps_for PassesOwn.never rfl (pi_tup (pe_fld (pv 0) rfl)) (pg_name (i := 1) scWitness.nd rfl (Or.inl rfl)) (pss_cons (ps_set (i := 2) scWitness.nd rfl (Or.inl rfl) (pe_h0 C_witness_for (hr.mono (by omega)) (pa_cons (pv 0) (pa_cons (pv 1) pa_nil)))) (pss_one (ps_if (pt_cmpR k_notN (pv 2) pe_non (nomark _)) (pss_one (ps_ret (pe_tup (pa_cons (pv 1) (pa_cons (pe_ix ix_tup (pv 2) pe_int (fun _ _ => rfl)) (pa_cons (pe_ix ix_tup (pv 2) pe_int (fun _ _ => rfl)) pa_nil)))))) pss_nil)))) (pss_one (ps_ret pe_non))), ?_⟩
  wtm_at "kk"
  refine g_st (σ' := [some (sc), none, none]) rfl ?_
  obtain ⟨a, dx, bl, st, nx, xs, ys, rfl, h2, c, h4, h6, hl, g⟩ := hS.top
  refine g_seq ?_
  wtm_at "go"
  refine KForT.mk (xs := Es.map V.str) (fun i σ H' => ∃ x1 x2, σ = [some (.ref a), x1, x2] ∧ Frm [] H H' ∧ ∀ z ∈ Es.take i, ¬ Bad R z)
    (fun i σ H' _ h => by obtain ⟨_, _, _, h, _⟩ := h; exact h.get0 hE) ⟨none, none, rfl, Frm.refl _ _, by simp⟩ (fun i x σ H' hx h => ?_) (fun σ H' h => ?_)
  · obtain ⟨x1, x2, rfl, fH, hn⟩ := h
    obtain ⟨z, hz, rfl⟩ := getMapStr hx
    wtm_at "go"
    refine to2 ⟨.ref e, R, z, hS.frm fH, rfl, fun hb p x y H2 f2 hp => ?_, fun hb H2 f2 => ?_⟩
    · wtm_at "go"
      exact qb ⟨z, List.mem_of_getElem? hz, hb⟩ _ _ (by wtm_at "fr")
    · wtm_at "go"
      refine ⟨_, _, rfl, by wtm_at "fr", fun y hy => ?_⟩
      rw [take_snoc hz] at hy
      rcases List.mem_append.mp hy with hy | hy
      · exact hn y hy
      · rw [List.mem_singleton.mp hy]; exact hb
  · obtain ⟨x1, x2, rfl, fH, hn⟩ := h
    wtm_at "go"
    rw [List.length_map, List.take_length] at hn
    exact qn hn H' fH
end

section
variable {P : Program} {w : World} {K : PySem.W.Frag} {mg : Str → Option Value} {base : Heap} {CI fI : Addr}
abbrev sInvalidscoreInit : Stmt := inClass (top 2) 0
theorem scInvalidscoreInit : FnScope ["self", "rule"] ["self", "rule"] (defScope sInvalidscoreInit) := ⟨rfl, rfl, rfl, by decide +kernel, rfl, by decide +kernel, by decide +kernel⟩
theorem ok_ini (Ex : ExC K mg CI fI) (A : AtM K "__init__" "InvalidScore.__init__" sInvalidscoreInit ["self", "rule"] fI) : HasM P w K mg base CX0 fI ["self", "rule"] 1 (sp2 (pIni K CI)) := by
  refine hasM_mk A scInvalidscoreInit (fun vs H Q E h => by obtain ⟨_, _, rfl, _⟩ := h; rfl) fun cdv A outer s H vs Q E hr h => ?_
  obtain ⟨se, r, rfl, a, rfl, ha, q⟩ := h
  refine ⟨_, (pss_one (ps_ost (pv 0) (pv 1))), ?_⟩
  wtm_at "kk"
  exact ⟨r, rfl, .ref a, rfl, a, CI, rfl, Ex.T, Ex.no, .inl ⟨ha, fun dx hd ne => q dx hd ne⟩⟩
abbrev sHasDoubles : Stmt := top 7
theorem scHasDoubles : FnScope ["names"] ["names"] (defScope sHasDoubles) := ⟨rfl, rfl, rfl, by decide +kernel, rfl, by decide +kernel, by decide +kernel⟩
def pDbl (nm : V) (H : Hp) (Q : VK) (_ : XK) : Prop := ∃ l, ∃ xs : List Str, nm = .ref l ∧ ((H l = some (.lst (xs.map V.str)) ∧ xs.length ≤ 1) ∨ (H l = some (.tup (xs.map V.str)) ∧ xs.Nodup ∧ xs.length ≤ 64)) ∧ Q (.bl false) H
theorem ok_dbl (T : Tx K mg) (A : At K mg "has_doubles" sHasDoubles ["names"]) : Has P w K mg base CX0 "has_doubles" ["names"] 1 (sp1 pDbl) := by
  refine has_mk A scHasDoubles (fun vs H Q E h => by obtain ⟨_, rfl, _⟩ := h; rfl) fun f cdv A outer s H vs Q E hr h => ?_
  obtain ⟨nm, rfl, l, xs, rfl, hl, q⟩ := h
  refine ⟨_, (pss_one (ps_ret (pe_cmpR k_lt (pe_lenSetN rfl (by rfl) T.len (by rfl) T.set (pv 0)) (pe_callB k_len (by rfl) T.len PySem.boot_len (pa_cons (pv 0) pa_nil)) (nomark _)))), ?_⟩
  wtm_at "kk"
  refine g_st (σ' := [some (.ref l)]) rfl ?_
  wtm_at "go"
  refine g_lenSet ?_
  wtm_at "go"
  refine ⟨l, xs, rfl, hl.imp (fun h => ⟨SqL.of h.1, h.2⟩) (fun h => ⟨SqT.of h.1, h.2⟩), ?_⟩
  rcases hl with ⟨h, _⟩ | ⟨h, _⟩
  · wtm_at "go"
    rw [List.length_map]
    wtm_at "go"
    rw [decide_eq_false (Int.lt_irrefl _)]
    exact q
  · wtm_at "go"
    rw [List.length_map]
    wtm_at "go"
    rw [decide_eq_false (Int.lt_irrefl _)]
    exact q
abbrev sNeed : Stmt := top 8
theorem scNeed : FnScope ["condition", "rule"] ["condition", "rule"] (defScope sNeed) := ⟨rfl, rfl, rfl, by decide +kernel, rfl, by decide +kernel, by decide +kernel⟩
def pNeed (CI : Addr) (c rl : V) (H : Hp) (Q : VK) (E : XK) : Prop := ∃ b, c = .bl b ∧ (b = true → Q .non H) ∧ (b = false → ∀ d H2, Frm [] H H2 → H2 d = some (.xd [("rule", rl)]) → E (.ref CI) (some d) H2)
theorem ok_need (Ex : ExC K mg CI fI) (T : Tx K mg) (A : At K mg "need" sNeed ["condition", "rule"]) (C_ini : HasM P w K mg base CX0 fI ["self", "rule"] 1 (sp2 (pIni K CI))) : Has P w K mg base (L2.CX P w) "need" ["condition", "rule"] 3 (sp2 (pNeed CI)) := by
  refine has_mkX A scNeed (fun vs H Q E h => by obtain ⟨_, _, rfl, _⟩ := h; rfl) fun f cdv A outer s H vs Q E hr h => ?_
  obtain ⟨c, rl, rfl, b, rfl, q1, q2⟩ := h
  refine ⟨_, (pss_one (ps_if (pt_not (pt_val (pv 0))) (pss_one (ps_raise rfl (takes_of rfl rfl rfl rfl) (pmk_inv Ex C_ini (hr.mono (by omega)) (by rfl) (pa_cons (pv 1) pa_nil)))) pss_nil)), ?_⟩
  wtm_at "kk"
  refine g_st (σ' := [some (.bl b), some (rl)]) rfl ?_
  wtm_at "go"
  cases b with
  | true =>
    rw [if_neg (by decide)]
    wtm_at "go"
    exact q1 rfl
  | false =>
    rw [if_pos (by decide)]
    exact g_mkV rfl (q2 rfl)
abbrev sInnerBlocks : Stmt := top 9
theorem scInnerBlocks : FnScope ["statement"] ["statement"] (defScope sInnerBlocks) := ⟨rfl, rfl, rfl, by decide +kernel, rfl, by decide +kernel, by decide +kernel⟩
def pInner (st : V) (H : Hp) (Q : VK) (_ : XK) : Prop := ∃ s : Stm, D H st (encS s) ∧ ∀ l H2 vs, H l = none → Frm [] H H2 → H2 l = some (.lst vs) → DL H2 vs ((inn s).map encBT) → Q (.ref l) H2
theorem ok_inner (A : At K mg "inner_blocks" sInnerBlocks ["statement"]) : Has P w K mg base CX0 "inner_blocks" ["statement"] 1 (sp1 pInner) := by
  refine has_mk A scInnerBlocks (fun vs H Q E h => by obtain ⟨_, rfl, _⟩ := h; rfl) fun f cdv A outer s H vs Q E hr h => ?_
  obtain ⟨st, rfl, sm, dS, q⟩ := h
  refine ⟨_, (pss_cons (ps_if (pt_cmpR op_eq (pe_ix ix_tup (pv 0) pe_int (fun _ _ => rfl)) pe_str (nomark _)) (pss_one (ps_ret (pe_lst (pa_cons (pe_ix ix_tup (pv 0) pe_int (fun _ _ => rfl)) (pa_cons (pe_ix ix_tup (pv 0) pe_int (fun _ _ => rfl)) pa_nil))))) pss_nil) (pss_cons (ps_if (pt_cmpR op_eq (pe_ix ix_tup (pv 0) pe_int (fun _ _ => rfl)) pe_str (nomark _)) (pss_one (ps_ret (pe_lst (pa_cons (pe_ix ix_tup (pv 0) pe_int (fun _ _ => rfl)) pa_nil)))) pss_nil) (pss_one (ps_ret (pe_lst pa_nil))))), ?_⟩
  wtm_at "kk"
  refine g_st (σ' := [some (st)]) rfl ?_
  cases sm with
  | msg f t l v y =>
    obtain ⟨b, x0, x1, x2, x3, x4, x5, rfl, hb, d0, d1, d2, d3, d4, d5⟩ := D.t6 dS
    cases d0
    wtm_at "go"
    exact q _ _ [] (by assumption) (by wtm_at "fr") (by wtm_at "hp") .nil
  | set e1 y v =>
    obtain ⟨b, x0, x1, x2, x3, rfl, hb, d0, d1, d2, d3⟩ := D.t4 dS
    cases d0
    wtm_at "go"
    exact q _ _ [] (by assumption) (by wtm_at "fr") (by wtm_at "hp") .nil
  | ask e1 y =>
    obtain ⟨b, x0, x1, x2, rfl, hb, d0, d1, d2⟩ := D.t3 dS
    cases d0
    wtm_at "go"
    exact q _ _ [] (by assumption) (by wtm_at "fr") (by wtm_at "hp") .nil
  | ite e1 v y n =>
    obtain ⟨b, x0, x1, x2, x3, x4, rfl, hb, d0, d1, d2, d3, d4⟩ := D.t5 dS
    cases d0
    wtm_at "go"
    exact q _ _ [x3, x4] (by assumption) (by wtm_at "fr") (by wtm_at "hp") (.cons (d3.frm (by assumption)) (.cons (d4.frm (by assumption)) .nil))
  | whl e1 v c =>
    obtain ⟨b, x0, x1, x2, x3, rfl, hb, d0, d1, d2, d3⟩ := D.t4 dS
    cases d0
    wtm_at "go"
    exact q _ _ [x3] (by assumption) (by wtm_at "fr") (by wtm_at "hp") (.cons (d3.frm (by assumption)) .nil)
  | call p es =>
    obtain ⟨b, x0, x1, x2, rfl, hb, d0, d1, d2⟩ := D.t3 dS
    cases d0
    wtm_at "go"
    exact q _ _ [] (by assumption) (by wtm_at "fr") (by wtm_at "hp") .nil
end

section
variable {P : Program} {w : World} {K : PySem.W.Frag} {mg : Str → Option Value} {base : Heap} {CI fI : Addr}
abbrev sAllStatements : Stmt := top 10
theorem scAllStatements : FnScope ["block", "result", "statement", "inner"] ["block"] (defScope sAllStatements) := ⟨rfl, rfl, rfl, by decide +kernel, rfl, by decide +kernel, by decide +kernel⟩
def pAll (n : Nat) (bl : V) (H : Hp) (Q : VK) (_ : XK) : Prop := ∃ b : List Stm, D H bl (encBT b) ∧ dpB b < n ∧ szB b ≤ 400000 ∧ ∀ l H2 vs, H l = none → Frm [] H H2 → H2 l = some (.lst vs) → DL H2 vs (encB (allB b)) → Q (.ref l) H2
theorem ok_all (T : Tx K mg) (A : At K mg "all_statements" sAllStatements ["block"]) (C_inner_blocks : Has P w K mg base CX0 "inner_blocks" ["statement"] 1 (sp1 pInner)) : ∀ n, Has P w K mg base CX0 "all_statements" ["block"] (n + 2) (sp1 (pAll n))
  | 0 => has_no A fun vs H Q E h => by obtain ⟨_, _, _, _, h, _⟩ := h; exact absurd h (Nat.not_lt_zero _)
  | n + 1 => by
    have C_all_statements := ok_all T A C_inner_blocks n
    refine has_mk A scAllStatements (fun vs H Q E h => by obtain ⟨_, rfl, _⟩ := h; rfl) fun f cdv A outer s H vs Q E hr h => ?_
    obtain ⟨bl, rfl, b, dB, hd, hz, q⟩ := h
    obtain ⟨ab, xs, rfl, hb, dX⟩ := dB.tupE
    refine ⟨_, (pss_cons (ps_set (i := 1) scAllStatements.nd rfl (Or.inl rfl) (pe_lst pa_nil)) (pss_cons (ps_for PassesOwn.never rfl (pi_tup (pv 0)) (pg_name (i := 2) scAllStatements.nd rfl (Or.inl rfl)) (pss_cons (ps_expr (pe_bm PySem.F.plainAttrs_list PySem.F.slot_list_append PySem.F.type_list_append mt_append (pv 1) (pa_cons (pv 2) pa_nil))) (pss_one (ps_for PassesOwn.never rfl (pi_list (pe_h0 C_inner_blocks (hr.mono (by omega)) (pa_cons (pv 2) pa_nil))) (pg_name (i := 3) scAllStatements.nd rfl (Or.inl rfl)) (pss_one (ps_expr (pe_bm PySem.F.plainAttrs_list PySem.F.slot_list_extend PySem.F.type_list_extend mt_extend (pv 1) (pa_cons (pe_h0 C_all_statements (hr.mono (by omega)) (pa_cons (pv 3) pa_nil)) pa_nil)))))))) (pss_one (ps_ret (pv 1))))), ?_⟩
    wtm_at "kk"
    refine g_st (σ' := [some (.ref ab), none, none, none]) rfl ?_
    refine g_seq (g_asg (g_lst (g_nil (g_KL (Nat.zero_le _) fun l0 H1 n0 f1 h0 => ?_))))
    wtm_at "gx"
    with_reducible refine g_seq ?_
    wtm_at "go"
    refine KForT.mk (xs := xs) (fun i σ H' => ∃ x2 x3, σ = [some (.ref ab), some (.ref l0), x2, x3] ∧ LI [] H l0 (encB (allB (b.take i))) H')
      (fun i σ H' _ h => by obtain ⟨_, _, _, h⟩ := h; exact h.fr.get0 hb) ⟨none, none, rfl, .new f1 h0⟩ (fun i x σ H' hx h => ?_) (fun σ H' h => ?_)
    · obtain ⟨x2, x3, rfl, h⟩ := h
      have fH := h.fr
      obtain ⟨sm, hs, dS⟩ := (dX.frm fH).stm hx
      have hsm := List.mem_of_getElem? hs
      have hdp := dp_mem hsm
      have hsz := sz_mem hsm
      have hsz2 : szB (b.take i) + sm.sz ≤ szB b := by
        have := szB_take b (i + 1)
        rw [take_snoc hs, szB_snoc] at this
        exact this
      obtain ⟨vs, hv, dv⟩ := h.at_
      have hvl : vs.length = szB (b.take i) := by rw [dv.len, encB_len, allB_len]
      wtm_at "go"
      refine g_app (by wtm_at "hp") (by omega) ?_
      have h1 := h.app n0 hv dS
      have dS1 := dS.mut (u := .lst (vs ++ [x])) hv nt_lst
      wtm_at "go"
      wtm_at "go"
      refine to1 ⟨sm, dS1, fun lb H2 ws nb f2 hlb dw => ?_⟩
      have hne : lb ≠ l0 := by rintro rfl; rw [upd_same] at nb; cases nb
      have h2 := h1.frm f2
      refine KForL.mk (xs := ws) (fun j σ H' => ∃ x3, σ = [some (.ref ab), some (.ref l0), some x, x3] ∧ LI [] H l0 (encB (allB (b.take i)) ++ [encS sm] ++ encB (((inn sm).take j).flatMap allB)) H' ∧ H' lb = some (.lst ws) ∧ DL H' ws ((inn sm).map encBT))
        (fun j σ H' _ h => by obtain ⟨_, _, _, h, _⟩ := h; exact h) ⟨x3, rfl, by rw [List.take_zero, List.flatMap_nil]; simpa [encB] using h2, hlb, dw⟩ (fun j y σ H3 hy h => ?_) (fun σ H3 h => ?_)
      · obtain ⟨x3, rfl, h3, hlb3, dw3⟩ := h
        obtain ⟨d, hdd, dy⟩ := dw3.getV hy
        rw [List.getElem?_map] at hdd
        cases hc : (inn sm)[j]? with
        | none => rw [hc] at hdd; cases hdd
        | some c =>
          rw [hc] at hdd
          obtain rfl : encBT c = d := Option.some.inj hdd
          have hcm := List.mem_of_getElem? hc
          have h5 := dp_inn hcm
          have h6 := sz_innM hcm
          obtain ⟨us0, hu0, _⟩ := h3.at_
          wtm_at "go"
          refine to1 ⟨c, dy, by omega, by omega, fun lr H4 zs nr f4 hlr dz => ?_⟩
          have h4 := h3.frm f4
          obtain ⟨us, hu, du⟩ := h4.at_
          have hul : us.length ≤ szB b := by
            rw [du.len]
            simp only [List.length_append, encB_len, allB_len, List.length_singleton]
            have := flatTake allB (inn sm) j
            have e1 : ((inn sm).flatMap allB).length + 1 = sm.sz := by
              have := congrArg List.length (all_inn sm)
              rw [all_len, List.length_cons] at this
              exact this.symm
            omega
          have hzl : zs.length = szB c := by rw [dz.len, encB_len, allB_len]
          wtm_at "go"
          refine g_ext hu hlr (by omega) ?_
          refine ⟨_, rfl, ?_, ?_, ?_⟩
          · have := h4.ext n0 hu dz
            rw [take_snoc hc, List.flatMap_append, encB_app, List.flatMap_cons, List.flatMap_nil, List.append_nil, ← List.append_assoc]
            exact this
          · rw [upd_ne hne]; exact f4.get0 hlb3
          · exact (dw3.frm f4).mut hu nt_lst
      · obtain ⟨x3, rfl, h3, hlb3, dw3⟩ := h
        have hl := dw3.len
        rw [List.length_map] at hl
        rw [hl, List.take_length] at h3
        refine ⟨_, _, rfl, ?_⟩
        have : allB (b.take (i + 1)) = allB (b.take i) ++ (sm :: (inn sm).flatMap allB) := by rw [take_snoc hs, allB_snoc, ← all_inn]
        rw [this, encB_app, encB]
        simpa using h3
    · obtain ⟨x2, x3, rfl, h⟩ := h
      rw [dX.encLen, List.take_length] at h
      obtain ⟨vs, hv, dv⟩ := h.at_
      wtm_at "go"
      exact q l0 H' vs n0 h.fr hv dv
end

section
variable {P : Program} {w : World} {K : PySem.W.Frag} {mg : Str → Option Value} {base : Heap} {CI fI : Addr}
abbrev sCheckStatement : Stmt := top 11
theorem scCheckStatement : FnScope ["statement", "ends", "parts", "named", "_", "part", "name"] ["statement", "ends", "parts"] (defScope sCheckStatement) := ⟨rfl, rfl, rfl, by decide +kernel, rfl, by decide +kernel, by decide +kernel⟩
def pChk (CI : Addr) (st en pa : V) (H : Hp) (Q : VK) (E : XK) : Prop := ∃ s e, ∃ Es : List Str, D H st (encS s) ∧ goodF s.flat ∧ en = .ref e ∧ H e = some (.tup (Es.map V.str)) ∧ (okF Es s.flat → ∀ H2, Frm [] H H2 → Q .non H2) ∧ (¬ okF Es s.flat → ∀ d H2, E (.ref CI) d H2)
theorem ok_chk (T : Tx K mg) (A : At K mg "check_statement" sCheckStatement ["statement", "ends", "parts"]) (C_need : Has P w K mg base (L2.CX P w) "need" ["condition", "rule"] 3 (sp2 (pNeed CI)))
    (C_has_doubles : Has P w K mg base CX0 "has_doubles" ["names"] 1 (sp1 pDbl)) : Has P w K mg base (L2.CX P w) "check_statement" ["statement", "ends", "parts"] 4 (sp3 (pChk CI)) := by
  refine has_mkX A scCheckStatement (fun vs H Q E h => by obtain ⟨_, _, _, rfl, _⟩ := h; rfl) fun f cdv A outer s H vs Q E hr h => ?_
  obtain ⟨st, en, pa, rfl, sm, e, Es, dS, g, rfl, hE, q1, q2⟩ := h
  refine ⟨_, (pss_cons (ps_set (i := 3) scCheckStatement.nd rfl (Or.inl rfl) (pe_lst (pa_cons (pe_ix ix_tup (pv 0) pe_int (fun _ _ => rfl)) pa_nil))) (pss_cons (ps_if (pt_cmpR op_eq (pe_ix ix_tup (pv 0) pe_int (fun _ _ => rfl)) pe_str (nomark _)) pss_no (pss_one (ps_if (pt_cmpR op_eq (pe_ix ix_tup (pv 0) pe_int (fun _ _ => rfl)) pe_str (nomark _)) (pss_one (ps_set (i := 3) scCheckStatement.nd rfl (Or.inl rfl) (pe_lst (pa_cons (pe_ix ix_tup (pv 0) pe_int (fun _ _ => rfl)) (pa_cons (pe_ix ix_tup (pv 0) pe_int (fun _ _ => rfl)) pa_nil))))) pss_nil))) (pss_cons (ps_expr (pe_has C_need (hr.mono (by omega)) (passes_call (takes_of rfl rfl rfl rfl) fun _ _ _ _ h => h) (pa_cons (pe_callB (cr_all rfl) (by rfl) T.all (by decide +kernel) (pa_cons (pe_lc (own := [("name", 6)]) rfl scCheckStatement.nd (pi_list (pv 3)) (blkOk_by (own := [("name", 6)]) (N := ["statement", "ends", "parts", "named", "_", "part", "name"]) (sc := defScope sCheckStatement) (by decide +kernel)) (fun _ _ _ _ _ => (pg_name (i := 6) scCheckStatement.nd rfl (Or.inl rfl))) (fun _ _ _ _ _ => pts_nil) (fun _ _ _ _ _ => (pe_cmpR (b_in K) (pv 6) (pv 1) (by rfl)))) pa_nil)) (pa_cons pe_str pa_nil)))) (pss_one (ps_expr (pe_has C_need (hr.mono (by omega)) (passes_call (takes_of rfl rfl rfl rfl) fun _ _ _ _ h => h) (pa_cons (pe_or (pe_cmpR op_ne (pe_ix ix_tup (pv 0) pe_int (fun _ _ => rfl)) pe_str (nomark _)) (pe_one (pe_cmpR op_ne (pe_ix ix_list (pv 3) pe_int (fun _ _ => rfl)) (pe_ix ix_list (pv 3) pe_int (fun _ _ => rfl)) (nomark _)))) (pa_cons pe_str pa_nil)))))))), ?_⟩
  wtm_at "kk"
  refine g_st (σ' := [some (st), some (.ref e), some (pa), none, none, none, none]) rfl ?_
  rcases dS.stm2 g with ⟨fr, to, lb, v, y, b, x3, x4, x5, rfl, rfl, hb⟩ | ⟨hm, z, b, xs, he1, hok, rfl, hb⟩
  · wtm_at "go"
    have hl1 := ‹_ = some (HO.lst [V.str fr, V.str to])›
    have fA := ‹Frm [] H _›
    refine KLc.mapL (xs := [fr, to].map V.str) hl1 (([fr, to].map fun n => decide (n ∈ Es)).map PyData.bool) rfl (Nat.le_of_ble_eq_true rfl) (fun i x H1 Dr N d hx hd f1 k => ?_) (fun l H2 ys nl f2 hl dl => ?_)
    · obtain ⟨a, ha, rfl⟩ := getMapStr hx
      rw [List.getElem?_map, List.getElem?_map, ha] at hd
      obtain rfl := Option.some.inj hd
      wtm_at "wi"
      wtm_at "go"
      refine g_inT (by wtm_at "hp") rfl (flatStrs Es) ?_
      rw [inV_str]
      exact k _ _ (Frm.refl _ _) (.bl _)
    · obtain rfl := dl.bools
      wtm_at "go"
      refine g_allL hl ?_
      wtm_at "go"
      refine to2 ⟨_, rfl, fun hb1 => ?_, fun hb1 d H3 _ _ => q2 (fun o => ?_) d H3⟩
      · wtm_at "go"
        refine to2 ⟨_, rfl, fun hb2 => ?_, fun hb2 d H3 _ _ => q2 (fun o => ?_) d H3⟩
        · wtm_at "go"
          refine q1 ?_ H2 (by wtm_at "fr")
          simp at hb1 hb2
          exact ⟨hb1.1, hb1.2, hb2⟩
        · obtain ⟨_, _, o⟩ := o
          simp [o] at hb2
      · obtain ⟨o1, o2, _⟩ := o
        simp [o1, o2] at hb1
  · wtm_at "go"
    rw [wd_call g, if_neg (by decide)]
    wtm_at "go"
    rw [hm, if_neg (by decide)]
    wtm_at "go"
    have hl1 := ‹_ = some (HO.lst [V.str z])›
    have fA := ‹Frm [] H _›
    refine KLc.mapL (xs := [z].map V.str) hl1 (([z].map fun n => decide (n ∈ Es)).map PyData.bool) rfl (Nat.le_of_ble_eq_true rfl) (fun i x H1 Dr N d hx hd f1 k => ?_) (fun l H2 ys nl f2 hl dl => ?_)
    · obtain ⟨a, ha, rfl⟩ := getMapStr hx
      rw [List.getElem?_map, List.getElem?_map, ha] at hd
      obtain rfl := Option.some.inj hd
      wtm_at "wi"
      wtm_at "go"
      refine g_inT (by wtm_at "hp") rfl (flatStrs Es) ?_
      rw [inV_str]
      exact k _ _ (Frm.refl _ _) (.bl _)
    · obtain rfl := dl.bools
      wtm_at "go"
      refine g_allL hl ?_
      wtm_at "go"
      refine to2 ⟨_, rfl, fun hb1 => ?_, fun hb1 d H3 _ _ => q2 (fun o => ?_) d H3⟩
      · wtm_at "go"
        rw [hm]
        wtm_at "go"
        refine to2 ⟨_, rfl, fun hb2 => ?_, fun hb2 d H3 _ _ => nomatch hb2⟩
        wtm_at "go"
        refine q1 ((hok Es).mpr ?_) H2 (by wtm_at "fr")
        simpa using hb1
      · have := (hok Es).mp o
        simp [this] at hb1
end

section
variable {P : Program} {w : World} {K : PySem.W.Frag} {mg : Str → Option Value} {base : Heap} {CI fI : Addr}
abbrev sPartsInOrder : Stmt := top 13
theorem scPartsInOrder : FnScope ["parts", "calls", "done", "ready", "name", "other"] ["parts"] (defScope sPartsInOrder) := ⟨rfl, rfl, rfl, by decide +kernel, rfl, by decide +kernel, by decide +kernel⟩
def pPio (pa : V) (H : Hp) (Q : VK) (_ : XK) : Prop := ∃ a, pa = .ref a ∧ H a = some (.dK []) ∧ ∀ l H2, H l = none → Frm [a] H H2 → H2 l = some (.lst []) → Q (.ref l) H2
theorem ok_pio (T : Tx K mg) (A : At K mg "parts_in_order" sPartsInOrder ["parts"]) : Has P w K mg base (L2.CX P w) "parts_in_order" ["parts"] 1 (sp1 pPio) := by
  refine has_mkX A scPartsInOrder (fun vs H Q E h => by obtain ⟨_, rfl, _⟩ := h; rfl) fun f cdv A outer s H vs Q E hr h => ?_
  obtain ⟨pa, rfl, a, rfl, ha, q⟩ := h
  refine ⟨_, (pss_cons (ps_set (i := 1) scPartsInOrder.nd rfl (Or.inr rfl) (pe_dc (own := [("name", 4)]) rfl scPartsInOrder.nd (pi_keys (pe_fz (pv 0))) (blkOk_by (own := [("name", 4)]) (N := ["parts", "calls", "done", "ready", "name", "other"]) (sc := defScope sPartsInOrder) (by decide +kernel)) (fun _ _ _ _ _ => pg_no) (fun _ _ _ _ _ => pts_no) (fun _ _ _ _ _ => pe_no) (fun _ _ _ _ _ => pe_no))) (pss_cons (ps_set (i := 2) scPartsInOrder.nd rfl (Or.inr rfl) (pe_lst pa_nil)) (pss_cons (ps_while (passes_of rfl) (pt_cmpR k_lt (pe_callB k_len (by rfl) T.len PySem.boot_len (pa_cons (pv 2) pa_nil)) (pe_callB k_lenD (by rfl) T.len PySem.boot_len (pa_cons (pv 0) pa_nil)) (nomark _)) pss_no) (pss_one (ps_ret (pv 2)))))), ?_⟩
  wtm_at "kk"
  refine g_st (σ' := [some (.ref a), none, none, none, none, none]) rfl ?_
  wtm_at "go"
  refine g_kK ha fun od => ?_
  have f0 : Frm [a] H (upd H a (.frz od (.dK []))) := Frm.mut List.mem_cons_self ha nt_dK
  refine KDc.nilK (a := a) upd_same (fun p H2 np f2 hp => ?_)
  wtm_at "go"
  rename_i l H3 n3 f3 h3
  have hz : H l = none := by
    have n4 := f2.back0 n3
    by_cases e : l = a
    · subst e; rw [upd_same] at n4; cases n4
    · rwa [upd_ne e] at n4
  refine g_while (fun _ σ H' => H' = H3 ∧ σ = [some (.ref a), some (.ref p), some (.ref l), none, none, none]) 0 ⟨rfl, rfl⟩ (fun m σ H' w => ?_)
  obtain ⟨rfl, rfl⟩ := w
  wtm_at "go"
  refine g_lenD (kvs := []) (.inr ⟨od, f3.get0 (f2.get0 upd_same)⟩) ?_
  wtm_at "go"
  rw [if_neg (by decide)]
  wtm_at "go"
  exact q l _ hz ((f0.trans f2.any).trans f3.any) h3
abbrev sMeasure : Stmt := top 14
theorem scMeasure : FnScope ["block", "sizes", "loops", "size", "depth", "statement", "inner", "more", "deeper"] ["block", "sizes", "loops"] (defScope sMeasure) := ⟨rfl, rfl, rfl, by decide +kernel, rfl, by decide +kernel, by decide +kernel⟩
def pMeas (n : Nat) (bl sz lo : V) (H : Hp) (Q : VK) (_ : XK) : Prop := ∃ b : List Stm, D H bl (encBT b) ∧ dpB b < n ∧ goodB b ∧ ∀ p H2, Frm [] H H2 → H2 p = some (.tup [.int (szB b : Nat), .int (lpB b : Nat)]) → Q (.ref p) H2
theorem ok_meas (T : Tx K mg) (A : At K mg "measure" sMeasure ["block", "sizes", "loops"]) (C_inner_blocks : Has P w K mg base CX0 "inner_blocks" ["statement"] 1 (sp1 pInner)) : ∀ n, Has P w K mg base CX0 "measure" ["block", "sizes", "loops"] (n + 2) (sp3 (pMeas n))
  | 0 => has_no A fun vs H Q E h => by obtain ⟨_, _, _, _, _, _, h, _⟩ := h; exact absurd h (Nat.not_lt_zero _)
  | n + 1 => by
    have C_measure := ok_meas T A C_inner_blocks n
    refine has_mk A scMeasure (fun vs H Q E h => by obtain ⟨_, _, _, rfl, _⟩ := h; rfl) fun f cdv A outer s H vs Q E hr h => ?_
    obtain ⟨bl, sz, lo, rfl, b, dB, hd, hg, q⟩ := h
    obtain ⟨ab, xs, rfl, hb, dX⟩ := dB.tupE
    refine ⟨_, (pss_cons (ps_set (i := 3) scMeasure.nd rfl (Or.inl rfl) pe_int) (pss_cons (ps_set (i := 4) scMeasure.nd rfl (Or.inl rfl) pe_int) (pss_cons (ps_for PassesOwn.never rfl (pi_tup (pv 0)) (pg_name (i := 5) scMeasure.nd rfl (Or.inl rfl)) (pss_cons (ps_if (pt_cmpR op_eq (pe_ix ix_tup (pv 5) pe_int (fun _ _ => rfl)) pe_str (nomark _)) pss_no pss_nil) (pss_cons (ps_aug (i := 3) scMeasure.nd rfl (Or.inl rfl) pe_int ip_add) (pss_one (ps_for PassesOwn.never rfl (pi_list (pe_h0 C_inner_blocks (hr.mono (by omega)) (pa_cons (pv 5) pa_nil))) (pg_name (i := 6) scMeasure.nd rfl (Or.inl rfl)) (pss_cons (ps_asg (pe_h0 C_measure (hr.mono (by omega)) (pa_cons (pv 6) (pa_cons (pv 1) (pa_cons (pv 2) pa_nil)))) (pg_tup rfl (pgs_cons (pg_name (i := 7) scMeasure.nd rfl (Or.inl rfl)) (pgs_cons (pg_name (i := 8) scMeasure.nd rfl (Or.inl rfl)) pgs_nil)))) (pss_cons (ps_aug (i := 3) scMeasure.nd rfl (Or.inl rfl) (pv 7) ip_add) (pss_one (ps_set (i := 4) scMeasure.nd rfl (Or.inl rfl) (pe_callB (k_max2 rfl) (by rfl) T.max (by decide +kernel) (pa_cons (pv 4) (pa_cons (pe_op k_add (pv 8) (pe_ifExp (pt_cmpR op_eq (pe_ix ix_tup (pv 5) pe_int (fun _ _ => rfl)) pe_str (nomark _)) pe_int pe_int)) pa_nil)))))))))))) (pss_one (ps_ret (pe_tup (pa_cons (pv 3) (pa_cons (pv 4) pa_nil)))))))), ?_⟩
    wtm_at "kk"
    refine g_st (σ' := [some (.ref ab), some (sz), some (lo), none, none, none, none, none, none]) rfl ?_
    wtm_at "go"
    refine KForT.mk (xs := xs) (fun i σ H' => ∃ x5 x6 x7 x8, σ = [some (.ref ab), some sz, some lo, some (.int (szB (b.take i) : Nat)), some (.int (lpB (b.take i) : Nat)), x5, x6, x7, x8] ∧ Frm [] H H')
      (fun i σ H' _ h => by obtain ⟨_, _, _, _, _, h⟩ := h; exact h.get0 hb) ⟨none, none, none, none, rfl, Frm.refl _ _⟩ (fun i x σ H' hx h => ?_) (fun σ H' h => ?_)
    · obtain ⟨x5, x6, x7, x8, rfl, fH⟩ := h
      obtain ⟨sm, hs, dS⟩ := (dX.frm fH).stm hx
      have hsm := List.mem_of_getElem? hs
      have hdp := dp_mem hsm
      have g := hg.at_ hsm
      obtain ⟨c, cs, rfl, hc⟩ := dS.stm1
      wtm_at "go"
      rw [wd_call g, if_neg (by decide)]
      wtm_at "go"
      refine to1 ⟨sm, dS, fun lb H2 ws nb f2 hlb dw => ?_⟩
      refine KForL.mk (xs := ws) (fun j σ H' => ∃ x6 x7 x8, σ = [some (.ref ab), some sz, some lo, some (.int (szB (b.take i) + 1 + (((inn sm).take j).map szB).sum : Nat)), some (.int (((inn sm).take j).foldl (fun m c => max m (lpB c + isW sm)) (lpB (b.take i)) : Nat)), some (.ref c), x6, x7, x8] ∧ Frm [] H2 H')
        (fun j σ H' _ h => by obtain ⟨_, _, _, _, h⟩ := h; exact h.get0 hlb) ⟨x6, x7, x8, rfl, Frm.refl _ _⟩ (fun j y σ H3 hy h => ?_) (fun σ H3 h => ?_)
      · obtain ⟨x6, x7, x8, rfl, f3⟩ := h
        obtain ⟨d, hdd, dy⟩ := (dw.frm f3).getV hy
        rw [List.getElem?_map] at hdd
        cases hcc : (inn sm)[j]? with
        | none => rw [hcc] at hdd; cases hdd
        | some bb =>
          rw [hcc] at hdd
          obtain rfl : encBT bb = d := Option.some.inj hdd
          have hcm := List.mem_of_getElem? hcc
          have h5 := dp_inn hcm
          wtm_at "go"
          refine to3 ⟨bb, dy, by omega, hg.inn hsm hcm, fun p H4 f4 hp => ?_⟩
          wtm_at "go"
          rw [wd_while]
          have e1 : ((inn sm).take (j + 1)).foldl (fun m c => max m (lpB c + isW sm)) (lpB (b.take i)) = max (((inn sm).take j).foldl (fun m c => max m (lpB c + isW sm)) (lpB (b.take i))) (lpB bb + isW sm) := by
            rw [take_snoc hcc, List.foldl_append]; rfl
          have e2 : (((inn sm).take (j + 1)).map szB).sum = (((inn sm).take j).map szB).sum + szB bb := by
            rw [take_snoc hcc, List.map_append, List.sum_append]; simp
          refine g_ite (fun k => ?_) fun k => ?_
          · have hw : isW sm = 1 := of_decide_eq_true k
            wtm_at "go"
            refine g_max2 ?_
            wtm_at "go"
            refine ⟨some y, some (.int (szB bb : Nat)), some (.int (lpB bb : Nat)), ?_, by wtm_at "fr"⟩
            rw [e1, e2, hw, ← max_nat, ← Nat.add_assoc]
            rfl
          · have hw : isW sm = 0 := by
              have := of_decide_eq_false k
              cases sm <;> first | rfl | exact absurd rfl this
            wtm_at "go"
            refine g_max2 ?_
            wtm_at "go"
            refine ⟨some y, some (.int (szB bb : Nat)), some (.int (lpB bb : Nat)), ?_, by wtm_at "fr"⟩
            rw [e1, e2, hw, ← max_nat, ← Nat.add_assoc]
            rfl
      · obtain ⟨x6, x7, x8, rfl, f3⟩ := h
        have hl := dw.len
        rw [List.length_map] at hl
        rw [hl, List.take_length, lp_inn]
        refine ⟨some (.ref c), x6, x7, x8, ?_, by wtm_at "fr"⟩
        rw [take_snoc hs, szB_snoc, lpB_snoc, sz_inn, Nat.add_assoc]
    · obtain ⟨x5, x6, x7, x8, rfl, fH⟩ := h
      rw [dX.encLen, List.take_length]
      wtm_at "go"
      exact q _ _ (by wtm_at "fr") (by wtm_at "hp")
end

section
variable {P : Program} {w : World} {K : PySem.W.Frag} {mg : Str → Option Value} {base : Heap} {CI fI : Addr}
abbrev sCheckTree : Stmt := top 15
theorem scCheckTree : FnScope ["tree", "ends", "parts", "block", "name", "_", "by_name", "parameters", "inner", "statement", "sizes", "loops", "size", "depth", "part"] ["tree"] (defScope sCheckTree) := ⟨rfl, rfl, rfl, by decide +kernel, rfl, by decide +kernel, by decide +kernel⟩
def pTree (CI : Addr) (tr : V) (H : Hp) (Q : VK) (E : XK) : Prop := ∃ (Es : List Str) (B : List Stm), D H tr (encT Es B) ∧ Es.Nodup ∧ Es.length ≤ 6 ∧ goodB B ∧ dpB B < 8 ∧ szB B ≤ 400000 ∧ (okTree Es B = true → ∀ H2, Frm [] H H2 → Q .non H2) ∧ (okTree Es B = false → ∀ d H2, E (.ref CI) d H2)
theorem D.tree {H : Hp} {v : V} {Es : List Str} {B : List Stm} (h : D H v (encT Es B)) : ∃ a e p b, v = .ref a ∧ H a = some (.tup [.ref e, .ref p, .ref b]) ∧ H e = some (.tup (Es.map V.str)) ∧ H p = some (.tup []) ∧ D H (.ref b) (encBT B) := by
  obtain ⟨a, x0, x1, x2, rfl, ha, d0, d1, d2⟩ := D.t3 h
  obtain ⟨e, xs, rfl, he, de⟩ := d0.tupE
  obtain ⟨p, ys, rfl, hp, dp⟩ := d1.tupE
  obtain rfl := de.strs
  obtain rfl := dp.nilE
  obtain ⟨b, zs, rfl, hb, db⟩ := d2.tupE
  exact ⟨a, e, p, b, rfl, ha, he, hp, .tup hb db⟩
theorem ok_tree (T : Tx K mg) (A : At K mg "check_tree" sCheckTree ["tree"]) (C_need : Has P w K mg base (L2.CX P w) "need" ["condition", "rule"] 3 (sp2 (pNeed CI)))
    (C_has_doubles : Has P w K mg base CX0 "has_doubles" ["names"] 1 (sp1 pDbl)) (C_all_statements : Has P w K mg base CX0 "all_statements" ["block"] 10 (sp1 (pAll 8)))
    (C_check_statement : Has P w K mg base (L2.CX P w) "check_statement" ["statement", "ends", "parts"] 4 (sp3 (pChk CI))) (C_parts_in_order : Has P w K mg base (L2.CX P w) "parts_in_order" ["parts"] 1 (sp1 pPio))
    (C_measure : Has P w K mg base CX0 "measure" ["block", "sizes", "loops"] 10 (sp3 (pMeas 8))) : Has P w K mg base (L2.CX P w) "check_tree" ["tree"] 11 (sp1 (pTree CI)) := by
  refine has_mkX A scCheckTree (fun vs H Q E h => by obtain ⟨_, rfl, _⟩ := h; rfl) fun f cdv A outer s H vs Q E hr h => ?_
  obtain ⟨tr, rfl, Es, B, dT, nd, hle, hg, hdp, hsz, q1, q2⟩ := h
  obtain ⟨t6, hME⟩ := T.me
  obtain ⟨t3, hML⟩ := T.ml
  obtain ⟨t150, hMS⟩ := T.ms
  obtain ⟨a, e, p, b, rfl, ha, he, hp, dB⟩ := dT.tree
  refine ⟨_, (pss_cons (ps_asg (pv 0) (pg_tup rfl (pgs_cons (pg_name (i := 1) scCheckTree.nd rfl (Or.inl rfl)) (pgs_cons (pg_name (i := 2) scCheckTree.nd rfl (Or.inl rfl)) (pgs_cons (pg_name (i := 3) scCheckTree.nd rfl (Or.inl rfl)) pgs_nil))))) (pss_cons (ps_expr (pe_has C_need (hr.mono (by omega)) (passes_call (takes_of rfl rfl rfl rfl) fun _ _ _ _ h => h) (pa_cons (pe_and (pe_cmpR k_le (pe_callB k_len (by rfl) T.len PySem.boot_len (pa_cons (pv 1) pa_nil)) (pe_glob (v := .int 6) rfl hME ⟨_, rfl⟩) (nomark _)) (pe_one (pe_not (pe_h0 C_has_doubles (hr.mono (by omega)) (pa_cons (pv 1) pa_nil))))) (pa_cons pe_str pa_nil)))) (pss_cons (ps_expr (pe_has C_need (hr.mono (by omega)) (passes_call (takes_of rfl rfl rfl rfl) fun _ _ _ _ h => h) (pa_cons (pe_not (pe_h0 C_has_doubles (hr.mono (by omega)) (pa_cons (pe_lc (own := [("name", 4), ("_", 5)]) rfl scCheckTree.nd (pi_tup (pv 2)) (blkOk_by (own := [("name", 4), ("_", 5)]) (N := ["tree", "ends", "parts", "block", "name", "_", "by_name", "parameters", "inner", "statement", "sizes", "loops", "size", "depth", "part"]) (sc := defScope sCheckTree) (by decide +kernel)) (fun _ _ _ _ _ => pg_no) (fun _ _ _ _ _ => pts_no) (fun _ _ _ _ _ => pe_no)) pa_nil))) (pa_cons pe_str pa_nil)))) (pss_cons (ps_setDc (i := 6) (own := [("part", 14)]) rfl scCheckTree.nd rfl rfl (sw_trueD rfl rfl rfl (by decide +kernel)) (pi_tup (pv 2)) (blkOk_by (own := [("part", 14)]) (N := ["tree", "ends", "parts", "block", "name", "_", "by_name", "parameters", "inner", "statement", "sizes", "loops", "size", "depth", "part"]) (sc := defScope sCheckTree) (by decide +kernel)) (fun _ _ _ _ _ => pg_no) (fun _ _ _ _ _ => pts_no) (fun _ _ _ _ _ => pe_no) (fun _ _ _ _ _ => pe_no)) (pss_cons (ps_for (passes_of rfl) rfl (pi_tup (pv 2)) pg_no pss_no) (pss_cons (ps_for (passes_of rfl) rfl (pi_tup (pv 2)) pg_no pss_no) (pss_cons (ps_for (passes_of rfl) rfl (pi_list (pe_h0 C_all_statements (hr.mono (by omega)) (pa_cons (pv 3) pa_nil))) (pg_name (i := 9) scCheckTree.nd rfl (Or.inl rfl)) (pss_one (ps_expr (pe_has C_check_statement (hr.mono (by omega)) (passes_call (takes_of rfl rfl rfl rfl) fun _ _ _ _ h => h) (pa_cons (pv 9) (pa_cons (pv 1) (pa_cons (pv 6) pa_nil))))))) (pss_cons (ps_set (i := 10) scCheckTree.nd rfl (Or.inl rfl) pe_dnewK) (pss_cons (ps_set (i := 11) scCheckTree.nd rfl (Or.inl rfl) pe_dnewK) (pss_cons (ps_for (passes_of rfl) rfl (pi_list (pe_has C_parts_in_order (hr.mono (by omega)) (passes_call (takes_of rfl rfl rfl rfl) fun _ _ _ _ h => h) (pa_cons (pv 6) pa_nil))) pg_no pss_no) (pss_cons (ps_asg (pe_h0 C_measure (hr.mono (by omega)) (pa_cons (pv 3) (pa_cons (pv 10) (pa_cons (pv 11) pa_nil)))) (pg_tup rfl (pgs_cons (pg_name (i := 12) scCheckTree.nd rfl (Or.inl rfl)) (pgs_cons (pg_name (i := 13) scCheckTree.nd rfl (Or.inl rfl)) pgs_nil)))) (pss_cons (ps_expr (pe_has C_need (hr.mono (by omega)) (passes_call (takes_of rfl rfl rfl rfl) fun _ _ _ _ h => h) (pa_cons (pe_cmpR k_le (pv 13) (pe_glob (v := .int 3) rfl hML ⟨_, rfl⟩) (nomark _)) (pa_cons pe_str pa_nil)))) (pss_one (ps_expr (pe_has C_need (hr.mono (by omega)) (passes_call (takes_of rfl rfl rfl rfl) fun _ _ _ _ h => h) (pa_cons (pe_cmpR k_le (pv 12) (pe_glob (v := .int 150) rfl hMS ⟨_, rfl⟩) (nomark _)) (pa_cons pe_str pa_nil))))))))))))))))), ?_⟩
  wtm_at "kk"
  refine g_st (σ' := [some (.ref a), none, none, none, none, none, none, none, none, none, none, none, none, none, none]) rfl ?_
  wtm_at "go"
  rw [List.length_map, decide_eq_true (by omega : (Es.length : Int) ≤ 6)]
  wtm_at "go"
  refine to1 ⟨e, Es, rfl, .inr ⟨he, nd, by omega⟩, ?_⟩
  wtm_at "go"
  refine to2 ⟨true, rfl, fun _ => ?_, fun h => nomatch h⟩
  wtm_at "go"
  refine KLc.nilT hp (fun l1 H1 n1 f1 h1 => ?_)
  wtm_at "go"
  refine to1 ⟨l1, [], rfl, .inl ⟨h1, Nat.zero_le _⟩, ?_⟩
  wtm_at "go"
  refine to2 ⟨true, rfl, fun _ => ?_, fun h => nomatch h⟩
  wtm_at "go"
  refine KDc.nilT (f1.get0 hp) (fun bn H2 n2 f2 h2 => ?_)
  wtm_at "go"
  refine KForT.nil (by wtm_at "hp") ?_
  wtm_at "go"
  refine KForT.nil (by wtm_at "hp") ?_
  wtm_at "go"
  have f02 : Frm [] H H2 := by wtm_at "fr"
  refine to1 ⟨B, dB.frm f02, hdp, hsz, fun la H3 vs n3 f3 h3 d3 => ?_⟩
  have f03 : Frm [] H H3 := by wtm_at "fr"
  refine KForL.mk (xs := vs) (fun i σ H' => ∃ x9, σ = [some (.ref a), some (.ref e), some (.ref p), some (.ref b), none, none, some (.ref bn), none, none, x9, none, none, none, none, none] ∧ Frm [] H3 H' ∧ ∀ s ∈ (allB B).take i, okF Es s.flat)
    (fun i σ H' _ h => by obtain ⟨_, _, h, _⟩ := h; exact h.get0 h3) ⟨none, rfl, Frm.refl _ _, by simp⟩ (fun i x σ H' hx h => ?_) (fun σ H' h => ?_)
  · obtain ⟨x9, rfl, fH, hok⟩ := h
    obtain ⟨sm, hs, dS⟩ := (d3.frm fH).stm hx
    have f0H : Frm [] H H' := f03.trans fH
    wtm_at "go"
    refine to3 ⟨sm, e, Es, dS, hg sm (List.mem_of_getElem? hs), rfl, by wtm_at "hp", fun o H4 f4 => ?_, fun o => q2 ?_⟩
    · wtm_at "go"
      refine ⟨_, rfl, by wtm_at "fr", fun t ht => ?_⟩
      rw [take_snoc hs] at ht
      rcases List.mem_append.mp ht with ht | ht
      · exact hok t ht
      · rw [List.mem_singleton.mp ht]; exact o
    · cases ho : okTree Es B with
      | false => rfl
      | true =>
        rw [okTree, Bool.and_eq_true, okAll, List.all_eq_true] at ho
        exact absurd (of_decide_eq_true (ho.1 sm (List.mem_of_getElem? hs))) o
  · obtain ⟨x9, rfl, fH, hok⟩ := h
    rw [d3.encLen, List.take_length] at hok
    have f0H : Frm [] H H' := f03.trans fH
    wtm_at "go"
    refine fun pz nz => ?_
    have f4 : Frm [] H' (upd H' pz (.dK [])) := Frm.new nz
    wtm_at "go"
    refine fun py ny => ?_
    have f5 : Frm [] (upd H' pz (.dK [])) (upd (upd H' pz (.dK [])) py (.dK [])) := Frm.new ny
    wtm_at "go"
    have hbn : upd (upd H' pz (.dK [])) py (.dK []) bn = some (.dK []) := f5.get0 (f4.get0 (fH.get0 (f3.get0 h2)))
    refine to1 ⟨bn, rfl, hbn, fun lo H5 n5 f6 h5 => ?_⟩
    have nbn : H bn = none := f1.back0 n2
    have f05 : Frm [] H H5 := Frm.cut (by wtm_at "fr") f6 (fun x hx => by rw [List.mem_singleton.mp hx]; exact nbn)
    refine KForL.nil h5 ?_
    wtm_at "go"
    refine to3 ⟨B, dB.frm f05, hdp, hg, fun pm H6 f7 hm => ?_⟩
    wtm_at "go"
    refine to2 ⟨_, rfl, fun hb1 => ?_, fun hb1 d H7 _ _ => q2 ?_ (some d) H7⟩
    · wtm_at "go"
      refine to2 ⟨_, rfl, fun hb2 => ?_, fun hb2 d H7 _ _ => q2 ?_ (some d) H7⟩
      · wtm_at "go"
        refine q1 ?_ H6 (by wtm_at "fr")
        rw [okTree, Bool.and_eq_true, okAll, List.all_eq_true, Bool.and_eq_true]
        have h1 := of_decide_eq_true hb1
        have h2 := of_decide_eq_true hb2
        exact ⟨fun s hs => decide_eq_true (hok s hs), decide_eq_true (by omega), decide_eq_true (by omega)⟩
      · have h2 := of_decide_eq_false hb2
        rw [okTree, decide_eq_false (by omega : ¬ szB B ≤ 150), Bool.and_false, Bool.and_false]
    · have h2 := of_decide_eq_false hb1
      rw [okTree, decide_eq_false (by omega : ¬ lpB B ≤ 3), Bool.false_and, Bool.and_false]
end

theorem putK_mem {kvs : List (Key × V)} {k : Key} {v : V} {p : Key × V} (h : p ∈ putK kvs k v) : p.1 = k ∨ ∃ q ∈ kvs, p.1 = q.1 := by
  unfold putK at h
  split at h
  · obtain ⟨q, hq, e⟩ := List.mem_map.mp h
    split at e
    · rename_i c
      exact .inl (by rw [← e]; exact c)
    · exact .inr ⟨q, hq, by rw [← e]⟩
  · rcases List.mem_append.mp h with h | h
    · exact .inr ⟨p, h, rfl⟩
    · rw [List.mem_singleton.mp h]; exact .inl rfl
/-- the keys of the dict are these texts -/
structure KeysD (kvs : List (Key × V)) (n : Nat) (P : Str → Prop) : Prop where
  len : kvs.length ≤ n
  is_ : ∀ x : Str, (valV kvs (Sum.inr x)).isSome = true ↔ P x
  str : ∀ p ∈ kvs, ∃ x : Str, p.1 = Sum.inr x
theorem KeysD.put {kvs : List (Key × V)} {n : Nat} {P : Str → Prop} (h : KeysD kvs n P) (y : Str) (v : V) : KeysD (putK kvs (Sum.inr y) v) (n + 1) (fun x => x = y ∨ P x) := by
  refine ⟨by have := length_putK kvs (Sum.inr y) v; have := h.len; omega, fun x => ?_, fun p hp => ?_⟩
  · rw [valV_put]
    by_cases c : (Sum.inr x : Key) = Sum.inr y
    · rw [if_pos c]
      exact ⟨fun _ => .inl (Sum.inr.inj c), fun _ => rfl⟩
    · rw [if_neg c, h.is_ x]
      exact ⟨.inr, fun z => z.elim (fun e => absurd (congrArg Sum.inr e) c) id⟩
  · rcases putK_mem hp with e | ⟨q, hq, e⟩
    · exact ⟨y, e⟩
    · obtain ⟨x, ex⟩ := h.str q hq
      exact ⟨x, e.trans ex⟩
theorem KeysD.imp {kvs : List (Key × V)} {n m : Nat} {P P' : Str → Prop} (h : KeysD kvs n P) (l : n ≤ m) (e : ∀ x, P x ↔ P' x) : KeysD kvs m P' := ⟨Nat.le_trans h.len l, fun x => (h.is_ x).trans (e x), h.str⟩
theorem KeysD.mem {kvs : List (Key × V)} {n : Nat} {P : Str → Prop} (h : KeysD kvs n P) {i : Nat} {k : Key} {v : V} (e : kvs[i]? = some (k, v)) : ∃ x, k = Sum.inr x ∧ P x := by
  obtain ⟨x, ex⟩ := h.str _ (List.mem_of_getElem? e)
  refine ⟨x, ex, (h.is_ x).mp ?_⟩
  have := valV_any k kvs
  have hm : (kvs.any fun kv => decide (kv.1 = k)) = true := List.any_eq_true.mpr ⟨(k, v), List.mem_of_getElem? e, decide_eq_true rfl⟩
  have ex' : k = Sum.inr x := ex
  rw [this, ex'] at hm
  exact hm
section
variable {P : Program} {w : World} {K : PySem.W.Frag} {mg : Str → Option Value} {base : Heap} {CI fI : Addr}
abbrev sEndsIn : Stmt := top 17
theorem scEndsIn : FnScope ["statement", "found", "one"] ["statement"] (defScope sEndsIn) := ⟨rfl, rfl, rfl, by decide +kernel, rfl, by decide +kernel, by decide +kernel⟩
def pEndsIn (st : V) (H : Hp) (Q : VK) (_ : XK) : Prop := ∃ s : Stm, D H st (encS s) ∧ goodB [s] ∧ dpB [s] < 8 ∧ szB [s] ≤ 400000 ∧ ∀ d H2 kvs, H d = none → Frm [] H H2 → H2 d = some (.dK kvs) → KeysD kvs 800000 (fun x => x ∈ s.ends) → Q (.ref d) H2
theorem ok_endsIn (T : Tx K mg) (A : At K mg "ends_in" sEndsIn ["statement"]) (C_all_statements : Has P w K mg base CX0 "all_statements" ["block"] 10 (sp1 (pAll 8))) : Has P w K mg base CX0 "ends_in" ["statement"] 11 (sp1 pEndsIn) := by
  refine has_mk A scEndsIn (fun vs H Q E h => by obtain ⟨_, rfl, _⟩ := h; rfl) fun f cdv A outer s H vs Q E hr h => ?_
  obtain ⟨st, rfl, sm, dS, hg, hdp, hsz, q⟩ := h
  refine ⟨_, (pss_cons (ps_set (i := 1) scEndsIn.nd rfl (Or.inl rfl) pe_dnewK) (pss_cons (ps_for PassesOwn.never rfl (pi_list (pe_h0 C_all_statements (hr.mono (by omega)) (pa_cons (pe_tup (pa_cons (pv 0) pa_nil)) pa_nil))) (pg_name (i := 2) scEndsIn.nd rfl (Or.inl rfl)) (pss_cons (ps_dput (hu_of hr) (pv 1) (pe_ix ix_tup (pv 2) pe_int (fun _ _ => rfl)) pe_bl rfl) (pss_one (ps_if (pt_cmpR op_eq (pe_ix ix_tup (pv 2) pe_int (fun _ _ => rfl)) pe_str (nomark _)) (pss_one (ps_dput (hu_of hr) (pv 1) (pe_ix ix_tup (pv 2) pe_int (fun _ _ => rfl)) pe_bl rfl)) pss_nil)))) (pss_one (ps_ret (pv 1))))), ?_⟩
  wtm_at "kk"
  refine g_st (σ' := [some (st), none, none]) rfl ?_
  wtm_at "go"
  refine fun d nd => ?_
  have f0 : Frm [] H (upd H d (.dK [])) := Frm.new nd
  wtm_at "go"
  rename_i p1 H1 n1 f1 h1
  refine to1 ⟨[sm], .tup h1 (.one (dS.frm (f0.trans f1))), hdp, hsz, fun la H2 vs n2 f2 h2 d2 => ?_⟩
  have hla : la ≠ d := by rintro rfl; rw [f1.get0 upd_same] at n2; cases n2
  have hd2 : H2 d = some (.dK []) := f2.get0 (f1.get0 upd_same)
  have f02 : Frm [] H H2 := (f0.trans f1).trans f2
  have hall : ∀ x : Str, x ∈ sm.ends ↔ ∃ t ∈ allB [sm], x ∈ t.ends1 := fun x => by
    unfold Stm.ends
    rw [List.mem_flatMap]
    simp [allB]
  refine KForL.mk (xs := vs) (fun i σ H' => ∃ x2 kvs, σ = [some st, some (.ref d), x2] ∧ Frm [] H H' ∧ H' la = some (.lst vs) ∧ DL H' vs (encB (allB [sm])) ∧ H' d = some (.dK kvs) ∧ KeysD kvs (2 * i) (fun x => ∃ t ∈ (allB [sm]).take i, x ∈ t.ends1))
    (fun i σ H' _ h => by obtain ⟨_, _, _, _, h, _⟩ := h; exact h) ⟨none, [], rfl, f02, h2, d2, hd2, Nat.le_refl _, fun x => by simp [valV_nil], by simp⟩ (fun i x σ H' hx h => ?_) (fun σ H' h => ?_)
  · obtain ⟨x2, kvs, rfl, fH, hl, dl, hd, hk⟩ := h
    obtain ⟨t, ht, dS⟩ := dl.stm hx
    have g := hg t (List.mem_of_getElem? ht)
    have hlen : (allB [sm]).length ≤ 400000 := by rw [allB_len]; exact hsz
    have hi : i < 400000 := by have := (List.getElem?_eq_some_iff.mp ht).1; omega
    have hkl := hk.len
    rcases dS.stm2 g with ⟨fr, to, lb, v, y, b, x3, x4, x5, rfl, rfl, hb⟩ | ⟨hm, z, b, xs, he1, hok, rfl, hb⟩
    · wtm_at "go"
      refine g_dputS hd (by omega) ?_
      have hb1 : upd H' d (.dK (putK kvs (Sum.inr fr) (.bl true))) b = _ := (Frm.mut (S := [d]) List.mem_cons_self hd nt_dK).tupS hb
      wtm_at "go"
      have hd1 : upd H' d (.dK (putK kvs (Sum.inr fr) (.bl true))) d = _ := upd_same
      have hk1 := hk.put fr (.bl true)
      refine g_dputS hd1 (by have := hk1.len; omega) ?_
      have f3 : Frm [d] H' (upd (upd H' d (.dK (putK kvs (Sum.inr fr) (.bl true)))) d (.dK (putK (putK kvs (Sum.inr fr) (.bl true)) (Sum.inr to) (.bl true)))) := (Frm.mut List.mem_cons_self hd nt_dK).trans (Frm.mut List.mem_cons_self upd_same nt_dK)
      refine ⟨_, _, rfl, (fH.loc nd).loc nd, f3.at1 hla hl, dl.frm f3, upd_same, ?_⟩
      refine (hk1.put to (.bl true)).imp (by omega) fun x => ?_
      rw [take_snoc ht]
      simp only [List.mem_append, List.mem_singleton, Stm.ends1]
      constructor
      · rintro (rfl | rfl | ⟨u, hu, hx⟩)
        · exact ⟨_, .inr rfl, by simp [Stm.ends1]⟩
        · exact ⟨_, .inr rfl, by simp [Stm.ends1]⟩
        · exact ⟨u, .inl hu, hx⟩
      · rintro ⟨u, hu | rfl, hx⟩
        · exact .inr (.inr ⟨u, hu, hx⟩)
        · simp only [Stm.ends1, List.mem_cons, List.not_mem_nil, or_false] at hx
          rcases hx with rfl | rfl
          · exact .inr (.inl rfl)
          · exact .inl rfl
    · wtm_at "go"
      refine g_dputS hd (by omega) ?_
      have f3 : Frm [d] H' (upd H' d (.dK (putK kvs (Sum.inr z) (.bl true)))) := Frm.mut List.mem_cons_self hd nt_dK
      have hb1 := f3.tupS hb
      wtm_at "go"
      rw [hm, if_neg (by decide)]
      wtm_at "go"
      refine ⟨_, _, rfl, fH.loc nd, f3.at1 hla hl, dl.frm f3, upd_same, ?_⟩
      refine (hk.put z (.bl true)).imp (by omega) fun x => ?_
      rw [take_snoc ht]
      simp only [List.mem_append, List.mem_singleton]
      constructor
      · rintro (rfl | ⟨u, hu, hx⟩)
        · exact ⟨_, .inr rfl, by rw [he1]; simp⟩
        · exact ⟨u, .inl hu, hx⟩
      · rintro ⟨u, hu | rfl, hx⟩
        · exact .inr ⟨u, hu, hx⟩
        · rw [he1, List.mem_singleton] at hx
          exact .inl hx
  · obtain ⟨x2, kvs, rfl, fH, hl, dl, hd, hk⟩ := h
    wtm_at "go"
    have e := d2.encLen
    refine q d H' kvs nd fH hd (hk.imp ?_ fun x => ?_)
    · rw [e, allB_len]; omega
    · rw [e, List.take_length]
      exact (hall x).symm
end

section
variable {P : Program} {w : World} {K : PySem.W.Frag} {mg : Str → Option Value} {base : Heap} {CI fI : Addr}
abbrev sMayFollow : Stmt := top 18
theorem scMayFollow : FnScope ["block", "index", "first", "end"] ["block", "index"] (defScope sMayFollow) := ⟨rfl, rfl, rfl, by decide +kernel, rfl, by decide +kernel, by decide +kernel⟩
def pMayF (bl ix : V) (H : Hp) (Q : VK) (_ : XK) : Prop := ∃ (b : List Stm) (k : Nat), D H bl (encBT b) ∧ ix = .int (k : Nat) ∧ goodB b ∧ dpB b < 8 ∧ szB b ≤ 400000 ∧ ∀ H2, Frm [] H H2 → Q (.bl (follow b k)) H2
theorem ok_mayF (T : Tx K mg) (A : At K mg "may_follow" sMayFollow ["block", "index"]) (C_ends_in : Has P w K mg base CX0 "ends_in" ["statement"] 11 (sp1 pEndsIn)) : Has P w K mg base CX0 "may_follow" ["block", "index"] 12 (sp2 pMayF) := by
  refine has_mk A scMayFollow (fun vs H Q E h => by obtain ⟨_, _, rfl, _⟩ := h; rfl) fun f cdv A outer s H vs Q E hr h => ?_
  obtain ⟨bl, ix, rfl, b, k, dB, rfl, hg, hdp, hsz, q⟩ := h
  obtain ⟨ab, xs, rfl, hb, dX⟩ := dB.tupE
  have hxl := dX.encLen
  refine ⟨_, (pss_cons (ps_if (pt_not (pt_chain k_le k_lt pe_int (pv 1) (pe_op k_sub (pe_callB k_len (by rfl) T.len PySem.boot_len (pa_cons (pv 0) pa_nil)) pe_int))) (pss_one (ps_ret pe_bl)) pss_nil) (pss_cons (ps_set (i := 2) scMayFollow.nd rfl (Or.inr rfl) (pe_h0 C_ends_in (hr.mono (by omega)) (pa_cons (pe_ix ix_tup (pv 0) (pv 1) (fun _ _ => rfl)) pa_nil))) (pss_one (ps_ret (pe_not (pe_callB (cr_any rfl) (by rfl) T.any (by decide +kernel) (pa_cons (pe_lc (own := [("end", 3)]) rfl scMayFollow.nd (pi_keys (pe_fz (pe_h0 C_ends_in (hr.mono (by omega)) (pa_cons (pe_ix ix_tup (pv 0) (pe_op k_add (pv 1) pe_int) (fun _ _ => rfl)) pa_nil)))) (blkOk_by (own := [("end", 3)]) (N := ["block", "index", "first", "end"]) (sc := defScope sMayFollow) (by decide +kernel)) (fun _ _ _ _ _ => (pg_name (i := 3) scMayFollow.nd rfl (Or.inl rfl))) (fun _ _ _ _ _ => pts_nil) (fun _ _ _ _ _ => (pe_cmp (pc_din (hu_of hr) (pv 3) (pv 2))))) pa_nil))))))), ?_⟩
  wtm_at "kk"
  refine g_st (σ' := [some (.ref ab), some (.int (k : Nat)), none, none]) rfl ?_
  wtm_at "go"
  rw [decide_eq_true (Int.natCast_nonneg k)]
  wtm_at "go"
  refine g_ite (fun c => ?_) fun c => ?_
  · have c' : ¬ ((k : Int) < (xs.length : Int) - 1) := by simpa using c
    wtm_at "go"
    have := q H (Frm.refl _ _)
    rwa [follow_out (by omega)] at this
  · have c' : ((k : Int) < (xs.length : Int) - 1) := by simpa using c
    have hk : k + 1 < b.length := by omega
    have e1 : b[k]? = some (b[k]'(by omega)) := List.getElem?_eq_getElem (by omega)
    have e2 : b[k + 1]? = some (b[k + 1]'(by omega)) := List.getElem?_eq_getElem (by omega)
    generalize b[k]'(by omega) = s1 at e1
    generalize b[k + 1]'(by omega) = s2 at e2
    have m1 := List.mem_of_getElem? e1
    have m2 := List.mem_of_getElem? e2
    obtain ⟨v1, ev1, d1⟩ := dX.stmAt e1
    obtain ⟨v2, ev2, d2⟩ := dX.stmAt e2
    wtm_at "go"
    refine g_ixT (by wtm_at "hp") (atI_nat ev1) ?_
    wtm_at "go"
    refine to1 ⟨s1, d1, hg.one m1, Nat.lt_of_le_of_lt (dp_one m1) hdp, Nat.le_trans (sz_one m1) hsz, fun da H1 kvs1 n1 f1 h1 k1 => ?_⟩
    wtm_at "go"
    refine g_ixT (by wtm_at "hp") (atI_nat (j := k + 1) ev2) ?_
    wtm_at "go"
    refine to1 ⟨s2, d2.frm f1, hg.one m2, Nat.lt_of_le_of_lt (dp_one m2) hdp, Nat.le_trans (sz_one m2) hsz, fun db H2 kvs2 n2 f2 h2 k2 => ?_⟩
    have hne : da ≠ db := by rintro rfl; rw [h1] at n2; cases n2
    refine g_kK h2 fun od => ?_
    have fz : Frm [db] H2 (upd H2 db (.frz od (.dK kvs2))) := Frm.mut List.mem_cons_self h2 nt_dK
    refine KLc.map (walk_keys (kvs := kvs2)) (fun H' f => f.get0 upd_same) ((kvs2.map fun p => (valV kvs1 p.1).isSome).map PyData.bool) (by simp) (by have := k2.len; omega) (fun i x H3 H4 Dr N d hd f3 y kc => ?_) (fun l H3 ys nl f3 hl dl => ?_)
    · obtain ⟨rfl, kx, v, e, rfl⟩ := y
      obtain ⟨x, rfl, _⟩ := k2.mem e
      rw [List.getElem?_map, List.getElem?_map, e] at hd
      obtain rfl := Option.some.inj hd
      wtm_at "wi"
      wtm_at "go"
      refine g_dinS (kvs := kvs1) (f3.get0 (fz.at1 hne (f2.get0 h1))) ?_
      exact kc _ _ (Frm.refl _ _) (.bl _)
    · obtain rfl := dl.bools
      wtm_at "go"
      refine g_anyL hl ?_
      wtm_at "go"
      have f0 : Frm [] H H3 := Frm.cut (f1.trans f2) (fz.trans f3.any) (fun x hx => by rw [List.mem_singleton.mp hx]; exact f1.back0 n2)
      have := q H3 f0
      have ef : follow b k = !(kvs2.map fun p => (valV kvs1 p.1).isSome).any id := by
        have : follow b k = dsjB s1 s2 := by unfold follow; rw [e1, e2]
        rw [this, dsjB_symm, Bool.eq_iff_iff, dsjB_iff, Bool.not_eq_true', Bool.eq_false_iff]
        constructor
        · intro hd ha
          obtain ⟨c, hc, ec⟩ := List.any_eq_true.mp ha
          obtain ⟨p, hp, rfl⟩ := List.mem_map.mp hc
          obtain ⟨x, ex⟩ := k2.str p hp
          obtain ⟨i, hi, ei⟩ := List.mem_iff_getElem.mp hp
          obtain ⟨y, ey, hy⟩ := k2.mem (i := i) (k := p.1) (v := p.2) (by rw [List.getElem?_eq_getElem hi, ei])
          have ec' : (valV kvs1 p.1).isSome = true := ec
          rw [ey, k1.is_] at ec'
          exact hd y hy ec'
        · intro ha x hx2 hx1
          apply ha
          have h1 := (k2.is_ x).mpr hx2
          have h2 := (k1.is_ x).mpr hx1
          rw [← valV_any] at h1
          obtain ⟨p, hp, ep⟩ := List.any_eq_true.mp h1
          have ep := of_decide_eq_true ep
          refine List.any_eq_true.mpr ⟨_, List.mem_map.mpr ⟨p, hp, rfl⟩, ?_⟩
          show (valV kvs1 p.1).isSome = true
          rw [ep]; exact h2
      rwa [ef] at this
end

section
variable {P : Program} {w : World} {K : PySem.W.Frag} {mg : Str → Option Value} {base : Heap} {CI fI : Addr}
abbrev sInnerBlock : Stmt := top 19
theorem scInnerBlock : FnScope ["block", "path", "index", "branch", "statement"] ["block", "path"] (defScope sInnerBlock) := ⟨rfl, rfl, rfl, by decide +kernel, rfl, by decide +kernel, by decide +kernel⟩
def pInB (bl pa : V) (H : Hp) (Q : VK) (_ : XK) : Prop := ∃ (b : List Stm) (k j : Nat) (p : List Nat), D H bl (encBT b) ∧ D H pa (encPath (k :: j :: p)) ∧ (∀ c v H2, inner b k j = some c → Frm [] H H2 → D H2 v (encBT c) → Q v H2) ∧ (inner b k j = none → ∀ H2, Frm [] H H2 → Q .non H2)
theorem ok_inB (T : Tx K mg) (A : At K mg "inner_block" sInnerBlock ["block", "path"]) : Has P w K mg base CX0 "inner_block" ["block", "path"] 1 (sp2 pInB) := by
  refine has_mk A scInnerBlock (fun vs H Q E h => by obtain ⟨_, _, rfl, _⟩ := h; rfl) fun f cdv A outer s H vs Q E hr h => ?_
  obtain ⟨bl, pa, rfl, b, k, j, p, dB, dP, q1, q2⟩ := h
  obtain ⟨ab, xs, rfl, hb, dX⟩ := dB.tupE
  have hxl := dX.encLen
  obtain ⟨ap, rfl, hp⟩ := dP.path
  rw [List.map_cons, List.map_cons] at hp
  refine ⟨_, (pss_cons (ps_par (i := 2) (j := 3) (by rfl) scInnerBlock.nd rfl rfl (by decide) rfl rfl (pa_cons (pe_ix ix_tup (pv 1) pe_int (fun _ _ => rfl)) (pa_cons (pe_ix ix_tup (pv 1) pe_int (fun _ _ => rfl)) pa_nil)) (by rfl)) (pss_cons (ps_if (pt_not (pt_chain k_le k_lt pe_int (pv 2) (pe_callB k_len (by rfl) T.len PySem.boot_len (pa_cons (pv 0) pa_nil)))) (pss_one (ps_ret pe_non)) pss_nil) (pss_cons (ps_set (i := 4) scInnerBlock.nd rfl (Or.inl rfl) (pe_ix ix_tup (pv 0) (pv 2) (fun _ _ => rfl))) (pss_cons (ps_if (PW.pt (pw_and (pt_cmpR op_eq (pe_ix ix_tup (pv 4) pe_int (fun _ _ => rfl)) pe_str (nomark _)) (pw_and1 (pt_cmpR op_in_seq (pv 3) (pe_tup (pa_cons pe_int (pa_cons pe_int pa_nil))) (by rfl))))) (pss_one (ps_ret (pe_ix ix_tup (pv 4) (pe_op k_add pe_int (pv 3)) (fun _ _ => rfl)))) pss_nil) (pss_one (ps_ret (pe_ifExp (PW.pt (pw_and (pt_cmpR op_eq (pe_ix ix_tup (pv 4) pe_int (fun _ _ => rfl)) pe_str (nomark _)) (pw_and1 (pt_cmpR op_eq (pv 3) pe_int (nomark _))))) (pe_ix ix_tup (pv 4) pe_int (fun _ _ => rfl)) pe_non))))))), ?_⟩
  wtm_at "kk"
  refine g_st (σ' := [some (.ref ab), some (.ref ap), none, none, none]) rfl ?_
  wtm_at "go"
  rw [decide_eq_true (Int.natCast_nonneg k)]
  wtm_at "go"
  refine g_ite (fun c => ?_) fun c => ?_
  · have c' : ¬ ((k : Int) < (xs.length : Int)) := by simpa using c
    wtm_at "go"
    refine q2 ?_ H (Frm.refl _ _)
    unfold inner
    rw [List.getElem?_eq_none (by omega)]
  · have c' : ((k : Int) < (xs.length : Int)) := by simpa using c
    have hk : k < b.length := by omega
    have e1 : b[k]? = some (b[k]'hk) := List.getElem?_eq_getElem hk
    generalize b[k]'hk = sm at e1
    obtain ⟨v1, ev1, d1⟩ := dX.stmAt e1
    have hin : inner b k j = innerS j sm := by unfold inner; rw [e1]
    rw [hin] at q2
    have q1' : ∀ c v H2, innerS j sm = some c → Frm [] H H2 → D H2 v (encBT c) → Q v H2 := fun c v H2 h => q1 c v H2 (hin.trans h)
    wtm_at "go"
    refine g_ixT (by wtm_at "hp") (atI_nat ev1) ?_
    cases sm with
    | msg f t l v y =>
      obtain ⟨b, x0, x1, x2, x3, x4, x5, rfl, hb, d0, d1, d2, d3, d4, d5⟩ := D.t6 d1
      cases d0
      wtm_at "go"
      exact q2 rfl _ (by wtm_at "fr")
    | set e1 y v =>
      obtain ⟨b, x0, x1, x2, x3, rfl, hb, d0, d1, d2, d3⟩ := D.t4 d1
      cases d0
      wtm_at "go"
      exact q2 rfl _ (by wtm_at "fr")
    | ask e1 y =>
      obtain ⟨b, x0, x1, x2, rfl, hb, d0, d1, d2⟩ := D.t3 d1
      cases d0
      wtm_at "go"
      exact q2 rfl _ (by wtm_at "fr")
    | ite e1 v y n =>
      obtain ⟨b, x0, x1, x2, x3, x4, rfl, hb, d0, d1, d2, d3, d4⟩ := D.t5 d1
      cases d0
      wtm_at "go"
      refine g_inT (by wtm_at "hp") rfl rfl ?_
      rw [show inV (.int (j : Nat)) [.int 0, .int 1] = (decide (0 = j) || decide (1 = j)) from inV_int j 0 1]
      by_cases h0 : j = 0
      · subst h0
        wtm_at "go"
        rw [if_pos (by decide)]
        wtm_at "go"
        refine g_ixT (by wtm_at "hp") (at3 rfl) ?_
        exact q1' y _ _ (by simp [innerS]) (by wtm_at "fr") (d3.frm (by wtm_at "fr" : Frm [] H _))
      · by_cases h1 : j = 1
        · subst h1
          wtm_at "go"
          rw [if_pos (by decide)]
          wtm_at "go"
          refine g_ixT (by wtm_at "hp") (at4 rfl) ?_
          exact q1' n _ _ (by simp [innerS]) (by wtm_at "fr") (d4.frm (by wtm_at "fr" : Frm [] H _))
        · rw [decide_eq_false (fun z => h0 z.symm), decide_eq_false (fun z => h1 z.symm)]
          wtm_at "go"
          rw [if_neg (by decide)]
          wtm_at "go"
          exact q2 (by simp [innerS, h0, h1]) _ (by wtm_at "fr")
    | whl e1 v c =>
      obtain ⟨b, x0, x1, x2, x3, rfl, hb, d0, d1, d2, d3⟩ := D.t4 d1
      cases d0
      wtm_at "go"
      rw [show decide (V.int (j : Nat) = V.int 0) = decide (j = 0) from decI (b := 0)]
      refine g_ite (fun k => ?_) fun k => ?_
      · have h0 := of_decide_eq_true k
        wtm_at "go"
        exact q1' c _ _ (by simp [innerS, h0]) (by wtm_at "fr") (d3.frm (by wtm_at "fr" : Frm [] H _))
      · have h0 := of_decide_eq_false k
        wtm_at "go"
        exact q2 (by simp [innerS, h0]) _ (by wtm_at "fr")
    | call p es =>
      obtain ⟨b, x0, x1, x2, rfl, hb, d0, d1, d2⟩ := D.t3 d1
      cases d0
      wtm_at "go"
      exact q2 rfl _ (by wtm_at "fr")
abbrev sMayExchange : Stmt := top 20
theorem scMayExchange : FnScope ["tree", "path", "block"] ["tree", "path"] (defScope sMayExchange) := ⟨rfl, rfl, rfl, by decide +kernel, rfl, by decide +kernel, by decide +kernel⟩
def pMayX (tr pa : V) (H : Hp) (Q : VK) (_ : XK) : Prop := ∃ (Es : List Str) (B : List Stm) (p : List Nat), D H tr (encT Es B) ∧ D H pa (encPath p) ∧ goodB B ∧ dpB B < 8 ∧ szB B ≤ 400000 ∧ ∀ H2, Frm [] H H2 → Q (.bl (mayEx B p)) H2
theorem ok_mayX (T : Tx K mg) (A : At K mg "may_exchange" sMayExchange ["tree", "path"]) (C_inner_block : Has P w K mg base CX0 "inner_block" ["block", "path"] 1 (sp2 pInB))
    (C_may_follow : Has P w K mg base CX0 "may_follow" ["block", "index"] 12 (sp2 pMayF)) : Has P w K mg base CX0 "may_exchange" ["tree", "path"] 13 (sp2 pMayX) := by
  refine has_mk A scMayExchange (fun vs H Q E h => by obtain ⟨_, _, rfl, _⟩ := h; rfl) fun f cdv A outer s H vs Q E hr h => ?_
  obtain ⟨tr, pa, rfl, Es, B, p, dT, dP, hg, hdp, hsz, q⟩ := h
  obtain ⟨a, e, pp, b, rfl, ha, he, hpp, dB⟩ := dT.tree
  refine ⟨_, (pss_cons (ps_set (i := 2) scMayExchange.nd rfl (Or.inl rfl) (pe_ix ix_tup (pv 0) pe_int (fun _ _ => rfl))) (pss_cons (ps_while PassesOwn.never (pt_cmpR k_gt (pe_callB k_len (by rfl) T.len PySem.boot_len (pa_cons (pv 1) pa_nil)) pe_int (nomark _)) (pss_cons (ps_set (i := 2) scMayExchange.nd rfl (Or.inl rfl) (pe_h0 C_inner_block (hr.mono (by omega)) (pa_cons (pv 2) (pa_cons (pv 1) pa_nil)))) (pss_cons (ps_if (pt_cmpR k_isN (pv 2) pe_non (nomark _)) (pss_one (ps_ret pe_bl)) pss_nil) (pss_one (ps_set (i := 1) scMayExchange.nd rfl (Or.inl rfl) (pe_slice sl_tupA (pv 1) (po_some pe_int) po_none)))))) (pss_one (ps_ret (pe_and (pe_cmpR op_eq (pe_callB k_len (by rfl) T.len PySem.boot_len (pa_cons (pv 1) pa_nil)) pe_int (nomark _)) (pe_one (pe_h0 C_may_follow (hr.mono (by omega)) (pa_cons (pv 2) (pa_cons (pe_ix ix_tup (pv 1) pe_int (fun _ _ => rfl)) pa_nil))))))))), ?_⟩
  wtm_at "kk"
  refine g_st (σ' := [some (.ref a), some (pa), none]) rfl ?_
  wtm_at "go"
  refine g_while (fun m σ H' => ∃ pa bl b, ∃ p' : List Nat, σ = [some (.ref a), some pa, some bl] ∧ Frm [] H H' ∧ D H' bl (encBT b) ∧ D H' pa (encPath p') ∧ goodB b ∧ dpB b < 8 ∧ szB b ≤ 400000 ∧ mayEx b p' = mayEx B p ∧ p'.length = m) p.length
    ⟨pa, _, B, p, rfl, Frm.refl _ _, dB, dP, hg, hdp, hsz, rfl, rfl⟩ (fun m σ H' w => ?_)
  obtain ⟨pa, bl, bb, p', rfl, fH, dB', dP', hg', hdp', hsz', hme, hm⟩ := w
  obtain ⟨ap, rfl, hp⟩ := dP'.path
  obtain ⟨ab, xs, rfl, hb, dX⟩ := dB'.tupE
  wtm_at "go"
  rw [List.length_map]
  refine g_ite (fun c => ?_) fun c => ?_
  · have c' := of_decide_eq_true c
    match p', c', hp, dP', hme, hm with
    | k :: j :: r, _, hp, dP', hme, hm =>
      refine g_turn ?_
      wtm_at "go"
      refine to2 ⟨bb, k, j, r, dB', dP', fun cc v H2 hc f2 dc => ?_, fun hn H2 f2 => ?_⟩
      · obtain ⟨ac, ys, rfl, hac, dY⟩ := dc.tupE
        obtain ⟨sm, e1, _, hin⟩ := inner_mem hc
        have hsm := List.mem_of_getElem? e1
        rw [List.map_cons, List.map_cons] at hp
        wtm_at "go"
        rename_i ar H3 f3 h3
        have h1 := dp_mem hsm
        have h2 := dp_inn hin
        have h3' := sz_mem hsm
        have h4 := sz_innM hin
        refine ⟨r.length, by rw [← hm, List.length_cons, List.length_cons]; omega, _, _, cc, r, rfl, by wtm_at "fr", dc.frm f3, D.ofPath h3, hg'.inn hsm hin, by omega, by omega, ?_, rfl⟩
        rw [← hme]
        show mayEx cc r = (match inner bb k j with | none => false | some c => mayEx c r)
        rw [hc]
      · wtm_at "go"
        have := q H2 (by wtm_at "fr")
        rw [← hme, show mayEx bb (k :: j :: r) = (match inner bb k j with | none => false | some c => mayEx c r) from rfl, hn] at this
        exact this
    | [k], c', _, _, _, _ => exact absurd c' (by simp)
    | [], c', _, _, _, _ => exact absurd c' (by simp)
  · have c' := of_decide_eq_false c
    match p', c', hp, dP', hme, hm with
    | k :: j :: r, c', _, _, _, _ => exact absurd c' (by simp; omega)
    | [k], _, hp, dP', hme, hm =>
      wtm_at "go"
      rw [if_pos (by rfl)]
      wtm_at "go"
      refine to2 ⟨bb, k, dB', rfl, hg', hdp', hsz', fun H2 f2 => ?_⟩
      have := q H2 (by wtm_at "fr")
      rw [← hme] at this
      exact this
    | [], _, hp, dP', hme, hm =>
      wtm_at "go"
      have := q H' fH
      rw [← hme] at this
      exact this
end

theorem exB_at {b : List Stm} {k j : Nat} {r : List Nat} {s : Stm} {c : List Stm} (h : b[k]? = some s) (hc : innerS j s = some c) : exB b (k :: j :: r) = b.take k ++ [exS j (exB c r) s] ++ b.drop (k + 1) := by
  simp only [exB, h, hc]
section
variable {P : Program} {w : World} {K : PySem.W.Frag} {mg : Str → Option Value} {base : Heap} {CI fI : Addr}
abbrev sExchangedIn : Stmt := top 21
theorem scExchangedIn : FnScope ["block", "path", "index", "statement", "place", "inside"] ["block", "path"] (defScope sExchangedIn) := ⟨rfl, rfl, rfl, by decide +kernel, rfl, by decide +kernel, by decide +kernel⟩
def pExI (n : Nat) (bl pa : V) (H : Hp) (Q : VK) (_ : XK) : Prop := ∃ (b : List Stm) (p : List Nat), D H bl (encBT b) ∧ D H pa (encPath p) ∧ mayEx b p = true ∧ p.length < n ∧ szB b ≤ 400000 ∧ ∀ v H2, Frm [] H H2 → D H2 v (encBT (exB b p)) → Q v H2
theorem ok_exI (T : Tx K mg) (A : At K mg "exchanged_in" sExchangedIn ["block", "path"]) : ∀ n, Has P w K mg base CX0 "exchanged_in" ["block", "path"] (n + 1) (sp2 (pExI n))
  | 0 => has_no A fun vs H Q E h => by obtain ⟨_, _, _, _, _, _, _, _, h, _⟩ := h; exact absurd h (Nat.not_lt_zero _)
  | n + 1 => by
    have C_exchanged_in := ok_exI T A n
    refine has_mk A scExchangedIn (fun vs H Q E h => by obtain ⟨_, _, rfl, _⟩ := h; rfl) fun f cdv A outer s H vs Q E hr h => ?_
    obtain ⟨bl, pa, rfl, b, p, dB, dP, hme, hlen, hsz, q⟩ := h
    obtain ⟨ab, xs, rfl, hb, dX⟩ := dB.tupE
    have hxl := dX.encLen
    have hbl := len_le_szB b
    obtain ⟨ap, rfl, hp⟩ := dP.path
    refine ⟨_, (pss_cons (ps_set (i := 2) scExchangedIn.nd rfl (Or.inl rfl) (pe_ix ix_tup (pv 1) pe_int (fun _ _ => rfl))) (pss_cons (ps_if (pt_cmpR op_eq (pe_callB k_len (by rfl) T.len PySem.boot_len (pa_cons (pv 1) pa_nil)) pe_int (nomark _)) (pss_one (ps_ret (pe_op op_catA (pe_op op_catA (pe_slice sl_tupA (pv 0) po_none (po_some (pv 2))) (pe_tup (pa_cons (pe_ix ix_tup (pv 0) (pe_op k_add (pv 2) pe_int) (fun _ _ => rfl)) (pa_cons (pe_ix ix_tup (pv 0) (pv 2) (fun _ _ => rfl)) pa_nil)))) (pe_slice sl_tupA (pv 0) (po_some (pe_op k_add (pv 2) pe_int)) po_none)))) pss_nil) (pss_cons (ps_set (i := 3) scExchangedIn.nd rfl (Or.inl rfl) (pe_ix ix_tup (pv 0) (pv 2) (fun _ _ => rfl))) (pss_cons (ps_set (i := 4) scExchangedIn.nd rfl (Or.inl rfl) (pe_op k_add pe_int (pe_ix ix_tup (pv 1) pe_int (fun _ _ => rfl)))) (pss_cons (ps_set (i := 5) scExchangedIn.nd rfl (Or.inl rfl) (pe_h0 C_exchanged_in (hr.mono (by omega)) (pa_cons (pe_ix ix_tup (pv 3) (pv 4) (fun _ _ => rfl)) (pa_cons (pe_slice sl_tupA (pv 1) (po_some pe_int) po_none) pa_nil)))) (pss_one (ps_ret (pe_op op_catA (pe_op op_catA (pe_slice sl_tupA (pv 0) po_none (po_some (pv 2))) (pe_tup (pa_cons (pe_op op_catA (pe_op op_catA (pe_slice sl_tupA (pv 3) po_none (po_some (pv 4))) (pe_tup (pa_cons (pv 5) pa_nil))) (pe_slice sl_tupA (pv 3) (po_some (pe_op k_add (pv 4) pe_int)) po_none)) pa_nil))) (pe_slice sl_tupA (pv 0) (po_some (pe_op k_add (pv 2) pe_int)) po_none))))))))), ?_⟩
    wtm_at "kk"
    refine g_st (σ' := [some (.ref ab), some (.ref ap), none, none, none, none]) rfl ?_
    match p, hp, hme, hlen, q with
    | [], _, hme, _, _ => exact absurd hme (by cases b <;> simp [mayEx])
    | [k], hp, hme, hlen, q =>
      have hme' : follow b k = true := hme
      unfold follow at hme'
      cases e1 : b[k]? with
      | none => rw [e1] at hme'; cases hme'
      | some s1 =>
        cases e2 : b[k + 1]? with
        | none => rw [e1, e2] at hme'; cases hme'
        | some s2 =>
          obtain ⟨v1, ev1, d1⟩ := dX.stmAt e1
          obtain ⟨v2, ev2, d2⟩ := dX.stmAt e2
          have hk2 := (List.getElem?_eq_some_iff.mp ev2).1
          wtm_at "go"
          rw [if_pos (by rfl)]
          wtm_at "go"
          refine g_slU (n := k) (by wtm_at "hp") (fun p1 H2 f2 h2 => ?_)
          wtm_at "go"
          refine g_ixT (by wtm_at "hp") (atI_nat (j := k + 1) ev2) ?_
          wtm_at "go"
          refine g_ixT (by wtm_at "hp") (atI_nat ev1) ?_
          wtm_at "go"
          rename_i p3 H4 n4 f4 h4
          refine g_catT (by wtm_at "hp") h4 (by rw [List.length_take]; simp only [List.length_cons, List.length_nil]; omega) (fun p5 H5 f5 h5 => ?_)
          wtm_at "go"
          refine g_slF (n := k + 2) (by wtm_at "hp") (fun p6 H6 f6 h6 => ?_)
          wtm_at "go"
          refine g_catT (by wtm_at "hp") h6 (by rw [List.length_append, List.length_take, List.length_drop]; simp only [List.length_cons, List.length_nil]; omega) (fun p7 H7 f7 h7 => ?_)
          have f0 : Frm [] H H7 := by wtm_at "fr"
          refine q _ H7 f0 ?_
          have ee : exB b [k] = b.take k ++ [s2, s1] ++ b.drop (k + 2) := by simp only [exB, e1, e2]
          rw [ee]
          refine .tup h7 ?_
          rw [encB_map, List.map_append, List.map_append, List.map_take, List.map_drop, ← encB_map]
          exact ((dX.frm f0).take k).app (.cons (d2.frm f0) (.cons (d1.frm f0) .nil)) |>.app ((dX.frm f0).drop (k + 2))
    | k :: j :: r, hp, hme, hlen, q =>
      have hme' : (match inner b k j with | none => false | some c => mayEx c r) = true := hme
      cases hin : inner b k j with
      | none => rw [hin] at hme'; cases hme'
      | some c =>
        rw [hin] at hme'
        have hmc : mayEx c r = true := hme'
        obtain ⟨sm, e1, hcs, hmem⟩ := inner_mem hin
        have hcz : szB c ≤ 400000 := by
          have h1 := sz_innM hmem
          have h2 := sz_mem (List.mem_of_getElem? e1)
          omega
        obtain ⟨v1, ev1, dS⟩ := dX.stmAt e1
        have hk2 := (List.getElem?_eq_some_iff.mp ev1).1
        rw [List.map_cons, List.map_cons] at hp
        wtm_at "go"
        refine g_ite (fun z => ?_) fun _ => ?_
        · have := V.int.inj (of_decide_eq_true z)
          simp only [List.length_cons, List.length_map] at this
          omega
        cases sm with
        | msg f t l v y => cases hcs
        | set e1 y v => cases hcs
        | ask e1 y => cases hcs
        | call p es => cases hcs
        | ite e1 v y n =>
          obtain ⟨b', x0, x1, x2, x3, x4, rfl, hs, d0, d1, d2, d3, d4⟩ := D.t5 dS
          have hcs' : (if j = 0 then some y else if j = 1 then some n else none) = some c := hcs
          by_cases h0 : j = 0
          · rw [if_pos h0] at hcs'
            cases hcs'
            subst h0
            wtm_at "go"
            refine g_ixT (by wtm_at "hp") (atI_nat ev1) ?_
            wtm_at "go"
            refine g_ixT (by wtm_at "hp") (at3 rfl) ?_
            wtm_at "go"
            rename_i pr Hr fr hpr
            have fHr : Frm [] H Hr := by wtm_at "fr"
            refine to2 ⟨c, r, d3.frm fHr, D.ofPath hpr, hmc, by simp only [List.length_cons] at hlen; omega, hcz, fun v H1 f1 dv => ?_⟩
            have f01 : Frm [] H H1 := fHr.trans f1
            wtm_at "go"
            refine g_slU (n := k) (f01.get0 hb) (fun p1 H2 f2 h2 => ?_)
            wtm_at "go"
            refine g_slU (n := 3) (f2.get0 (f01.get0 hs)) (fun p2 H3 f3 h3 => ?_)
            wtm_at "go"
            rename_i p3 H4 n4 f4 h4 p5 H5 f5 h5
            refine g_slF (n := 4) (f5.get0 (f4.get0 (f3.get0 (f2.get0 (f01.get0 hs))))) (fun p6 H6 f6 h6 => ?_)
            wtm_at "go"
            rename_i p7 H7 f7 h7 p8 H8 n8 f8 h8
            refine g_catT (by wtm_at "hp") h8 (by rw [List.length_take, List.length_singleton]; omega) (fun p9 H9 f9 h9 => ?_)
            wtm_at "go"
            have f19 : Frm [] H1 H9 := by wtm_at "fr"
            refine g_slF (n := k + 1) (f19.get0 (f01.get0 hb)) (fun p10 H10 f10 h10 => ?_)
            wtm_at "go"
            refine g_catT (by wtm_at "hp") h10 (by rw [List.length_append, List.length_take, List.length_singleton, List.length_drop]; omega) (fun p11 H11 f11 h11 => ?_)
            have f111 : Frm [] H1 H11 := by wtm_at "fr"
            have f0 : Frm [] H H11 := f01.trans f111
            refine q _ H11 f0 ?_
            have e7 : H11 p7 = some (.tup [x0, x1, x2, v, x4]) := by
              have := f11.get0 (f10.get0 (f9.get0 (f8.get0 h7)))
              exact this
            rw [exB_at e1 hcs]
            have dv' := dv.frm f111
            refine .tup h11 ?_
            rw [encB_map, List.map_append, List.map_append, List.map_take, List.map_drop, ← encB_map]
            refine ((dX.frm f0).take k).app (.one (.tup e7 ?_)) |>.app ((dX.frm f0).drop (k + 1))
            exact .cons (d0.frm f0) (.cons (d1.frm f0) (.cons (d2.frm f0) (.cons dv' (.cons (d4.frm f0) (.nil)))))
          · rw [if_neg h0] at hcs'
            by_cases h1 : j = 1
            · rw [if_pos h1] at hcs'
              cases hcs'
              subst h1
              wtm_at "go"
              refine g_ixT (by wtm_at "hp") (atI_nat ev1) ?_
              wtm_at "go"
              refine g_ixT (by wtm_at "hp") (at4 rfl) ?_
              wtm_at "go"
              rename_i pr Hr fr hpr
              have fHr : Frm [] H Hr := by wtm_at "fr"
              refine to2 ⟨c, r, d4.frm fHr, D.ofPath hpr, hmc, by simp only [List.length_cons] at hlen; omega, hcz, fun v H1 f1 dv => ?_⟩
              have f01 : Frm [] H H1 := fHr.trans f1
              wtm_at "go"
              refine g_slU (n := k) (f01.get0 hb) (fun p1 H2 f2 h2 => ?_)
              wtm_at "go"
              refine g_slU (n := 4) (f2.get0 (f01.get0 hs)) (fun p2 H3 f3 h3 => ?_)
              wtm_at "go"
              rename_i p3 H4 n4 f4 h4 p5 H5 f5 h5
              refine g_slF (n := 5) (f5.get0 (f4.get0 (f3.get0 (f2.get0 (f01.get0 hs))))) (fun p6 H6 f6 h6 => ?_)
              wtm_at "go"
              rename_i p7 H7 f7 h7 p8 H8 n8 f8 h8
              refine g_catT (by wtm_at "hp") h8 (by rw [List.length_take, List.length_singleton]; omega) (fun p9 H9 f9 h9 => ?_)
              wtm_at "go"
              have f19 : Frm [] H1 H9 := by wtm_at "fr"
              refine g_slF (n := k + 1) (f19.get0 (f01.get0 hb)) (fun p10 H10 f10 h10 => ?_)
              wtm_at "go"
              refine g_catT (by wtm_at "hp") h10 (by rw [List.length_append, List.length_take, List.length_singleton, List.length_drop]; omega) (fun p11 H11 f11 h11 => ?_)
              have f111 : Frm [] H1 H11 := by wtm_at "fr"
              have f0 : Frm [] H H11 := f01.trans f111
              refine q _ H11 f0 ?_
              have e7 : H11 p7 = some (.tup [x0, x1, x2, x3, v]) := by
                have := f11.get0 (f10.get0 (f9.get0 (f8.get0 h7)))
                exact this
              rw [exB_at e1 hcs]
              have dv' := dv.frm f111
              refine .tup h11 ?_
              rw [encB_map, List.map_append, List.map_append, List.map_take, List.map_drop, ← encB_map]
              refine ((dX.frm f0).take k).app (.one (.tup e7 ?_)) |>.app ((dX.frm f0).drop (k + 1))
              exact .cons (d0.frm f0) (.cons (d1.frm f0) (.cons (d2.frm f0) (.cons (d3.frm f0) (.cons dv' (.nil)))))
            · rw [if_neg h1] at hcs'; cases hcs'
        | whl e1 v cc =>
          obtain ⟨b', x0, x1, x2, x3, rfl, hs, d0, d1, d2, d3⟩ := D.t4 dS
          have hcs' : (if j = 0 then some cc else none) = some c := hcs
          by_cases h0 : j = 0
          · rw [if_pos h0] at hcs'
            cases hcs'
            subst h0
            wtm_at "go"
            refine g_ixT (by wtm_at "hp") (atI_nat ev1) ?_
            wtm_at "go"
            refine g_ixT (by wtm_at "hp") (at3 rfl) ?_
            wtm_at "go"
            rename_i pr Hr fr hpr
            have fHr : Frm [] H Hr := by wtm_at "fr"
            refine to2 ⟨c, r, d3.frm fHr, D.ofPath hpr, hmc, by simp only [List.length_cons] at hlen; omega, hcz, fun v H1 f1 dv => ?_⟩
            have f01 : Frm [] H H1 := fHr.trans f1
            wtm_at "go"
            refine g_slU (n := k) (f01.get0 hb) (fun p1 H2 f2 h2 => ?_)
            wtm_at "go"
            refine g_slU (n := 3) (f2.get0 (f01.get0 hs)) (fun p2 H3 f3 h3 => ?_)
            wtm_at "go"
            rename_i p3 H4 n4 f4 h4 p5 H5 f5 h5
            refine g_slF (n := 4) (f5.get0 (f4.get0 (f3.get0 (f2.get0 (f01.get0 hs))))) (fun p6 H6 f6 h6 => ?_)
            wtm_at "go"
            rename_i p7 H7 f7 h7 p8 H8 n8 f8 h8
            refine g_catT (by wtm_at "hp") h8 (by rw [List.length_take, List.length_singleton]; omega) (fun p9 H9 f9 h9 => ?_)
            wtm_at "go"
            have f19 : Frm [] H1 H9 := by wtm_at "fr"
            refine g_slF (n := k + 1) (f19.get0 (f01.get0 hb)) (fun p10 H10 f10 h10 => ?_)
            wtm_at "go"
            refine g_catT (by wtm_at "hp") h10 (by rw [List.length_append, List.length_take, List.length_singleton, List.length_drop]; omega) (fun p11 H11 f11 h11 => ?_)
            have f111 : Frm [] H1 H11 := by wtm_at "fr"
            have f0 : Frm [] H H11 := f01.trans f111
            refine q _ H11 f0 ?_
            have e7 : H11 p7 = some (.tup [x0, x1, x2, v]) := by
              have := f11.get0 (f10.get0 (f9.get0 (f8.get0 h7)))
              exact this
            rw [exB_at e1 hcs]
            have dv' := dv.frm f111
            refine .tup h11 ?_
            rw [encB_map, List.map_append, List.map_append, List.map_take, List.map_drop, ← encB_map]
            refine ((dX.frm f0).take k).app (.one (.tup e7 ?_)) |>.app ((dX.frm f0).drop (k + 1))
            exact .cons (d0.frm f0) (.cons (d1.frm f0) (.cons (d2.frm f0) (.cons dv' (.nil))))
          · rw [if_neg h0] at hcs'; cases hcs'
end

theorem mayEx_len : ∀ (p : List Nat) (b : List Stm), mayEx b p = true → p.length ≤ 2 * dpB b + 1
  | [], b, _ => Nat.zero_le _
  | [k], b, _ => by simp
  | k :: j :: r, b, h => by
    have h' : (match inner b k j with | none => false | some c => mayEx c r) = true := h
    cases hin : inner b k j with
    | none => rw [hin] at h'; cases h'
    | some c =>
      rw [hin] at h'
      obtain ⟨sm, e1, hcs, hmem⟩ := inner_mem hin
      have h1 := dp_mem (List.mem_of_getElem? e1)
      have h2 := dp_inn hmem
      have h3 := mayEx_len r c h'
      simp only [List.length_cons]
      omega
section
variable {P : Program} {w : World} {K : PySem.W.Frag} {mg : Str → Option Value} {base : Heap} {CI fI : Addr}
abbrev sExchanged : Stmt := top 22
theorem scExchanged : FnScope ["tree", "path"] ["tree", "path"] (defScope sExchanged) := ⟨rfl, rfl, rfl, by decide +kernel, rfl, by decide +kernel, by decide +kernel⟩
def pExch (CI : Addr) (tr pa : V) (H : Hp) (Q : VK) (E : XK) : Prop := ∃ (Es : List Str) (B : List Stm) (p : List Nat), D H tr (encT Es B) ∧ D H pa (encPath p) ∧ goodB B ∧ dpB B < 8 ∧ szB B ≤ 400000 ∧
  (mayEx B p = true → ∀ v H2, Frm [] H H2 → D H2 v (encT Es (exB B p)) → Q v H2) ∧ (mayEx B p = false → ∀ d H2, Frm [] H H2 → H2 d = some (.xd [("rule", .str "exchange")]) → E (.ref CI) (some d) H2)
theorem ok_exch (Ex : ExC K mg CI fI) (T : Tx K mg) (A : At K mg "exchanged" sExchanged ["tree", "path"]) (C_ini : HasM P w K mg base CX0 fI ["self", "rule"] 1 (sp2 (pIni K CI)))
    (C_may_exchange : Has P w K mg base CX0 "may_exchange" ["tree", "path"] 13 (sp2 pMayX)) (C_exchanged_in : Has P w K mg base CX0 "exchanged_in" ["block", "path"] 21 (sp2 (pExI 20))) : Has P w K mg base (L2.CX P w) "exchanged" ["tree", "path"] 22 (sp2 (pExch CI)) := by
  refine has_mkX A scExchanged (fun vs H Q E h => by obtain ⟨_, _, rfl, _⟩ := h; rfl) fun f cdv A outer s H vs Q E hr h => ?_
  obtain ⟨tr, pa, rfl, Es, B, p, dT, dP, hg, hdp, hsz, q1, q2⟩ := h
  obtain ⟨a, e, pp, b, rfl, ha, he, hpp, dB⟩ := dT.tree
  refine ⟨_, (pss_cons (ps_if (pt_not (pt_val (pe_h0 C_may_exchange (hr.mono (by omega)) (pa_cons (pv 0) (pa_cons (pv 1) pa_nil))))) (pss_one (ps_raise rfl (takes_of rfl rfl rfl rfl) (pmk_inv Ex C_ini (hr.mono (by omega)) (by rfl) (pa_cons pe_str pa_nil)))) pss_nil) (pss_one (ps_ret (pe_tup (pa_cons (pe_ix ix_tup (pv 0) pe_int (fun _ _ => rfl)) (pa_cons (pe_ix ix_tup (pv 0) pe_int (fun _ _ => rfl)) (pa_cons (pe_h0 C_exchanged_in (hr.mono (by omega)) (pa_cons (pe_ix ix_tup (pv 0) pe_int (fun _ _ => rfl)) (pa_cons (pv 1) pa_nil))) pa_nil))))))), ?_⟩
  wtm_at "kk"
  refine g_st (σ' := [some (.ref a), some (pa)]) rfl ?_
  wtm_at "go"
  refine to2 ⟨Es, B, p, dT, dP, hg, hdp, hsz, fun H1 f1 => ?_⟩
  wtm_at "go"
  refine g_ite (fun c => ?_) fun c => ?_
  · have c' : mayEx B p = false := by simpa using c
    exact g_mkO fun d H2 f2 h2 => q2 c' d H2 (f1.trans f2) h2
  · have c' : mayEx B p = true := by simpa using c
    wtm_at "go"
    refine to2 ⟨B, p, dB.frm f1, dP.frm f1, c', by have := mayEx_len p B c'; omega, hsz, fun v H2 f2 dv => ?_⟩
    wtm_at "go"
    rename_i pr H3 n3 f3 h3
    have f13 : Frm [] H H3 := (f1.trans f2).trans f3
    refine q1 c' _ H3 f13 (.tup h3 (.cons ?_ (.cons ?_ (.cons (dv.frm f3) .nil))))
    · exact .tup (f13.get0 he) DL.ofStrs
    · exact .tup (f13.get0 hpp) .nil
end

def NmOk (kvs : List (Key × V)) (L : List Str) : Prop := ∀ e ∈ L, valV kvs (Sum.inr e) = some (.str e)
theorem endsB_sub {b : List Stm} {s : Stm} (h : s ∈ b) : ∀ e ∈ s.ends, e ∈ endsB b := fun e he => by
  unfold Stm.ends at he
  obtain ⟨t, ht, he⟩ := List.mem_flatMap.mp he
  exact List.mem_flatMap.mpr ⟨t, all_mem h t ht, he⟩
theorem ends_inn {s : Stm} {c : List Stm} (h : c ∈ inn s) : ∀ e ∈ endsB c, e ∈ s.ends := fun e he => by
  obtain ⟨t, ht, he⟩ := List.mem_flatMap.mp he
  exact List.mem_flatMap.mpr ⟨t, inn_mem h t ht, he⟩
theorem ends_self {s : Stm} : ∀ e ∈ s.ends1, e ∈ s.ends := fun e he => List.mem_flatMap.mpr ⟨s, self_all s, he⟩
theorem goodB.in1 {s : Stm} (g : goodB [s]) {c : List Stm} (h : c ∈ K34.inn s) : goodB c := g.inn List.mem_cons_self h
theorem goodB.self {s : Stm} (g : goodB [s]) : goodF s.flat := g.at_ List.mem_cons_self
theorem sz_in1 {s : Stm} {c : List Stm} (h : c ∈ inn s) : szB c ≤ szB [s] := by
  have := sz_innM h
  simp only [szB]; omega
section
variable {P : Program} {w : World} {K : PySem.W.Frag} {mg : Str → Option Value} {base : Heap} {CI fI : Addr}
abbrev sPlayedStatement : Stmt := top 37
theorem scPlayedStatement : FnScope ["statement", "names", "parts", "word", "_", "parameters", "inner", "end", "ends", "yes", "no", "name"] ["statement", "names", "parts"] (defScope sPlayedStatement) := ⟨rfl, rfl, rfl, by decide +kernel, rfl, by decide +kernel, by decide +kernel⟩
abbrev sPlayedBlock : Stmt := top 38
theorem scPlayedBlock : FnScope ["block", "names", "parts", "result", "statement"] ["block", "names", "parts"] (defScope sPlayedBlock) := ⟨rfl, rfl, rfl, by decide +kernel, rfl, by decide +kernel, by decide +kernel⟩
def pPlS (n : Nat) (st nm pa : V) (H : Hp) (Q : VK) (_ : XK) : Prop := ∃ (s : Stm) (d : Addr) (kvs : List (Key × V)), D H st (encS s) ∧ s.dp < n ∧ goodB [s] ∧ szB [s] ≤ 400000 ∧ nm = .ref d ∧ H d = some (.dK kvs) ∧ NmOk kvs s.ends ∧ ∀ l H2 v, H l = none → Frm [] H H2 → H2 l = some (.lst [v]) → D H2 v (encS s) → Q (.ref l) H2
def pPlB (n : Nat) (bl nm pa : V) (H : Hp) (Q : VK) (_ : XK) : Prop := ∃ (b : List Stm) (d : Addr) (kvs : List (Key × V)), D H bl (encBT b) ∧ dpB b < n ∧ goodB b ∧ szB b ≤ 400000 ∧ nm = .ref d ∧ H d = some (.dK kvs) ∧ NmOk kvs (endsB b) ∧ ∀ l H2 vs, H l = none → Frm [] H H2 → H2 l = some (.lst vs) → DL H2 vs (encB b) → Q (.ref l) H2
theorem ok_plS {n : Nat} (T : Tx K mg) (A : At K mg "played_statement" sPlayedStatement ["statement", "names", "parts"]) (C_played_block : Has P w K mg base CX0 "played_block" ["block", "names", "parts"] (2 * n + 2) (sp3 (pPlB n))) :
    Has P w K mg base CX0 "played_statement" ["statement", "names", "parts"] (2 * n + 3) (sp3 (pPlS (n + 1))) := by
  refine has_mk A scPlayedStatement (fun vs H Q E h => by obtain ⟨_, _, _, rfl, _⟩ := h; rfl) fun f cdv A outer s H vs Q E hr h => ?_
  obtain ⟨st, nm, pa, rfl, sm, d, kvs, dS, hdp, hg, hsz, rfl, hd, hnm, q⟩ := h
  refine ⟨_, (pss_cons (ps_set (i := 3) scPlayedStatement.nd rfl (Or.inl rfl) (pe_ix ix_tup (pv 0) pe_int (fun _ _ => rfl))) (pss_cons (ps_if (pt_cmpR op_eq (pv 3) pe_str (nomark _)) pss_no pss_nil) (pss_cons (ps_set (i := 7) scPlayedStatement.nd rfl (Or.inl rfl) (pe_dget (hu_of hr) (pv 1) (pe_ix ix_tup (pv 0) pe_int (fun _ _ => rfl)) (fun _ _ => rfl))) (pss_cons (ps_if (pt_cmpR op_eq (pv 3) pe_str (nomark _)) (pss_one (ps_ret (pe_lst (pa_cons (pe_op op_catA (pe_tup (pa_cons (pv 3) (pa_cons (pv 7) (pa_cons (pe_dget (hu_of hr) (pv 1) (pe_ix ix_tup (pv 0) pe_int (fun _ _ => rfl)) (fun _ _ => rfl)) pa_nil)))) (pe_slice sl_tupA (pv 0) (po_some pe_int) po_none)) pa_nil)))) pss_nil) (pss_cons (ps_if (pt_cmpR op_eq (pv 3) pe_str (nomark _)) (pss_cons (ps_set (i := 9) scPlayedStatement.nd rfl (Or.inl rfl) (pe_h0 C_played_block (hr.mono (by omega)) (pa_cons (pe_ix ix_tup (pv 0) pe_int (fun _ _ => rfl)) (pa_cons (pv 1) (pa_cons (pv 2) pa_nil))))) (pss_cons (ps_set (i := 10) scPlayedStatement.nd rfl (Or.inl rfl) (pe_h0 C_played_block (hr.mono (by omega)) (pa_cons (pe_ix ix_tup (pv 0) pe_int (fun _ _ => rfl)) (pa_cons (pv 1) (pa_cons (pv 2) pa_nil))))) (pss_one (ps_ret (pe_lst (pa_cons (pe_tup (pa_cons (pv 3) (pa_cons (pv 7) (pa_cons (pe_ix ix_tup (pv 0) pe_int (fun _ _ => rfl)) (pa_cons (pe_callTy k_tup (by rfl) T.tuple (by decide +kernel) (pa_cons (pv 9) pa_nil)) (pa_cons (pe_callTy k_tup (by rfl) T.tuple (by decide +kernel) (pa_cons (pv 10) pa_nil)) pa_nil)))))) pa_nil)))))) pss_nil) (pss_cons (ps_if (pt_cmpR op_eq (pv 3) pe_str (nomark _)) (pss_one (ps_ret (pe_lst (pa_cons (pe_tup (pa_cons (pv 3) (pa_cons (pv 7) (pa_cons (pe_ix ix_tup (pv 0) pe_int (fun _ _ => rfl)) (pa_cons (pe_callTy k_tup (by rfl) T.tuple (by decide +kernel) (pa_cons (pe_h0 C_played_block (hr.mono (by omega)) (pa_cons (pe_ix ix_tup (pv 0) pe_int (fun _ _ => rfl)) (pa_cons (pv 1) (pa_cons (pv 2) pa_nil)))) pa_nil)) pa_nil))))) pa_nil)))) pss_nil) (pss_one (ps_ret (pe_lst (pa_cons (pe_op op_catA (pe_tup (pa_cons (pv 3) (pa_cons (pv 7) pa_nil))) (pe_slice sl_tupA (pv 0) (po_some pe_int) po_none)) pa_nil)))))))))), ?_⟩
  wtm_at "kk"
  refine g_st (σ' := [some (st), some (.ref d), some (pa), none, none, none, none, none, none, none, none, none]) rfl ?_
  cases sm with
  | msg f t l v y =>
    obtain ⟨b, x0, x1, x2, x3, x4, x5, rfl, hb, d0, d1, d2, d3, d4, d5⟩ := D.t6 dS
    cases d0
    cases d1
    cases d2
    wtm_at "go"
    refine g_dgetS hd (hnm f (ends_self f (by simp [Stm.ends1]))) ?_
    wtm_at "go"
    refine g_dgetS hd (hnm t (ends_self t (by simp [Stm.ends1]))) ?_
    wtm_at "go"
    rename_i p1 H1 n1 f1 h1 p2 H2 f2 h2 p3 H3 f3 h3 p4 H4 n4 f4 h4
    have f0 : Frm [] H H4 := by wtm_at "fr"
    have f03 : Frm [] H H3 := by wtm_at "fr"
    exact q p4 H4 (.ref p3) (f03.back0 n4) f0 h4 (.tup (f4.get0 h3) (.cons (.str _) (.cons (.str _) (.cons (.str _) (.cons (d3.frm f0) (.cons (d4.frm f0) (.cons (d5.frm f0) .nil)))))))
  | set e y v =>
    obtain ⟨b, x0, x1, x2, x3, rfl, hb, d0, d1, d2, d3⟩ := D.t4 dS
    cases d0
    cases d1
    wtm_at "go"
    refine g_dgetS hd (hnm e (ends_self e (by simp [Stm.ends1]))) ?_
    wtm_at "go"
    rename_i p1 H1 n1 f1 h1 p2 H2 f2 h2 p3 H3 f3 h3 p4 H4 n4 f4 h4
    have f0 : Frm [] H H4 := by wtm_at "fr"
    have f03 : Frm [] H H3 := by wtm_at "fr"
    exact q p4 H4 (.ref p3) (f03.back0 n4) f0 h4 (.tup (f4.get0 h3) (.cons (.str _) (.cons (.str _) (.cons (d2.frm f0) (.cons (d3.frm f0) .nil)))))
  | ask e y =>
    obtain ⟨b, x0, x1, x2, rfl, hb, d0, d1, d2⟩ := D.t3 dS
    cases d0
    cases d1
    wtm_at "go"
    refine g_dgetS hd (hnm e (ends_self e (by simp [Stm.ends1]))) ?_
    wtm_at "go"
    rename_i p1 H1 n1 f1 h1 p2 H2 f2 h2 p3 H3 f3 h3 p4 H4 n4 f4 h4
    have f0 : Frm [] H H4 := by wtm_at "fr"
    have f03 : Frm [] H H3 := by wtm_at "fr"
    exact q p4 H4 (.ref p3) (f03.back0 n4) f0 h4 (.tup (f4.get0 h3) (.cons (.str _) (.cons (.str _) (.cons (d2.frm f0) .nil))))
  | ite e v y n =>
    obtain ⟨b, x0, x1, x2, x3, x4, rfl, hb, d0, d1, d2, d3, d4⟩ := D.t5 dS
    cases d0
    cases d1
    have m1 : y ∈ inn (.ite e v y n) := by simp [inn]
    have m2 : n ∈ inn (.ite e v y n) := by simp [inn]
    have z1 := dp_inn m1
    have z2 := dp_inn m2
    have s1 := sz_in1 m1
    have s2 := sz_in1 m2
    wtm_at "go"
    refine g_dgetS hd (hnm e (ends_self e (by simp [Stm.ends1]))) ?_
    wtm_at "go"
    refine to3 ⟨y, d, kvs, d3, by omega, hg.in1 m1, by omega, rfl, hd, fun a ha => hnm a (ends_inn m1 a ha), fun ly H1 vy n1 f1 h1 dy => ?_⟩
    wtm_at "go"
    refine to3 ⟨n, d, kvs, d4.frm f1, by omega, hg.in1 m2, by omega, rfl, f1.get0 hd, fun a ha => hnm a (ends_inn m2 a ha), fun ln H2 vn n2 f2 h2 dn => ?_⟩
    wtm_at "go"
    rename_i p1 H3 f3 h3 p2 H4 f4 h4 p3 H5 n5 f5 h5 p4 H6 n6 f6 h6
    have f26 : Frm [] H2 H6 := ((f3.trans f4).trans f5).trans f6
    have f05 : Frm [] H H5 := by wtm_at "fr"
    have f0 : Frm [] H H6 := by wtm_at "fr"
    refine q p4 H6 (.ref p3) (f05.back0 n6) f0 h6 (.tup (f6.get0 h5) (.cons (.str _) (.cons (.str _) (.cons (d2.frm f0) (.cons ?_ (.cons ?_ .nil))))))
    · exact .tup (f6.get0 (f5.get0 (f4.get0 h3))) (dy.frm (f2.trans f26))
    · exact .tup (f6.get0 (f5.get0 h4)) (dn.frm f26)
  | whl e v c =>
    obtain ⟨b, x0, x1, x2, x3, rfl, hb, d0, d1, d2, d3⟩ := D.t4 dS
    cases d0
    cases d1
    have m1 : c ∈ inn (.whl e v c) := by simp [inn]
    have z1 := dp_inn m1
    have s1 := sz_in1 m1
    wtm_at "go"
    refine g_dgetS hd (hnm e (ends_self e (by simp [Stm.ends1]))) ?_
    wtm_at "go"
    refine to3 ⟨c, d, kvs, d3, by omega, hg.in1 m1, by omega, rfl, hd, fun a ha => hnm a (ends_inn m1 a ha), fun ly H1 vy n1 f1 h1 dy => ?_⟩
    wtm_at "go"
    rename_i p1 H3 f3 h3 p3 H5 n5 f5 h5 p4 H6 n6 f6 h6
    have f05 : Frm [] H H5 := by wtm_at "fr"
    have f0 : Frm [] H H6 := by wtm_at "fr"
    refine q p4 H6 (.ref p3) (f05.back0 n6) f0 h6 (.tup (f6.get0 h5) (.cons (.str _) (.cons (.str _) (.cons (d2.frm f0) (.cons ?_ .nil)))))
    exact .tup (f6.get0 (f5.get0 h3)) (dy.frm ((f3.trans f5).trans f6))
  | call p es => exact False.elim hg.self
theorem ok_plB {n : Nat} (T : Tx K mg) (A : At K mg "played_block" sPlayedBlock ["block", "names", "parts"]) (C_played_statement : Has P w K mg base CX0 "played_statement" ["statement", "names", "parts"] (2 * n + 3) (sp3 (pPlS (n + 1)))) :
    Has P w K mg base CX0 "played_block" ["block", "names", "parts"] (2 * (n + 1) + 2) (sp3 (pPlB (n + 1))) := by
  refine has_mk A scPlayedBlock (fun vs H Q E h => by obtain ⟨_, _, _, rfl, _⟩ := h; rfl) fun f cdv A outer s H vs Q E hr h => ?_
  obtain ⟨bl, nm, pa, rfl, b, d, kvs, dB, hdp, hg, hsz, rfl, hd, hnm, q⟩ := h
  obtain ⟨ab, xs, rfl, hb, dX⟩ := dB.tupE
  have hbl := len_le_szB b
  refine ⟨_, (pss_cons (ps_set (i := 3) scPlayedBlock.nd rfl (Or.inl rfl) (pe_lst pa_nil)) (pss_cons (ps_for PassesOwn.never rfl (pi_tup (pv 0)) (pg_name (i := 4) scPlayedBlock.nd rfl (Or.inl rfl)) (pss_one (ps_expr (pe_bm PySem.F.plainAttrs_list PySem.F.slot_list_extend PySem.F.type_list_extend mt_extend (pv 3) (pa_cons (pe_h0 C_played_statement (hr.mono (by omega)) (pa_cons (pv 4) (pa_cons (pv 1) (pa_cons (pv 2) pa_nil)))) pa_nil))))) (pss_one (ps_ret (pv 3))))), ?_⟩
  wtm_at "kk"
  refine g_st (σ' := [some (.ref ab), some (.ref d), some (pa), none, none]) rfl ?_
  wtm_at "go"
  rename_i l0 H1 n0 f1 h0
  refine KForT.mk (xs := xs) (fun i σ H' => ∃ x4, σ = [some (.ref ab), some (.ref d), some pa, some (.ref l0), x4] ∧ LI [] H l0 (encB (b.take i)) H')
    (fun i σ H' _ h => by obtain ⟨_, _, h⟩ := h; exact h.fr.get0 hb) ⟨none, rfl, .new f1 h0⟩ (fun i x σ H' hx h => ?_) (fun σ H' h => ?_)
  · obtain ⟨x4, rfl, h⟩ := h
    have fH := h.fr
    obtain ⟨sm, hs, dS⟩ := (dX.frm fH).stm hx
    have hsm := List.mem_of_getElem? hs
    have h1 := dp_mem hsm
    have h2 := sz_one hsm
    obtain ⟨us, hu, du⟩ := h.at_
    wtm_at "go"
    refine to3 ⟨sm, d, kvs, dS, by omega, hg.one hsm, by omega, rfl, fH.get0 hd, fun a ha => hnm a (endsB_sub hsm a ha), fun lr H2 v n2 f2 h2 dv => ?_⟩
    have h' := h.frm f2
    have hu' := f2.get0 hu
    have hlu := h'.len hu'
    have hi := (List.getElem?_eq_some_iff.mp hs).1
    wtm_at "go"
    refine g_ext hu' h2 (by rw [hlu, encB_len, List.length_take]; simp only [List.length_cons, List.length_nil]; omega) ?_
    refine ⟨_, rfl, ?_⟩
    rw [take_snoc hs, encB_app]
    exact h'.ext n0 hu' (.cons dv .nil)
  · obtain ⟨x4, rfl, h⟩ := h
    rw [dX.encLen, List.take_length] at h
    obtain ⟨us, hu, du⟩ := h.at_
    wtm_at "go"
    exact q l0 H' us n0 h.fr hu du
theorem ok_pl (T : Tx K mg) (AS : At K mg "played_statement" sPlayedStatement ["statement", "names", "parts"]) (AB : At K mg "played_block" sPlayedBlock ["block", "names", "parts"]) : ∀ n, Has P w K mg base CX0 "played_block" ["block", "names", "parts"] (2 * n + 2) (sp3 (pPlB n))
  | 0 => has_no AB fun vs H Q E h => by obtain ⟨_, _, _, _, _, _, _, _, h, _⟩ := h; exact absurd h (Nat.not_lt_zero _)
  | n + 1 => ok_plB T AB (ok_plS T AS (ok_pl T AS AB n))
abbrev sPlayedOut : Stmt := top 39
theorem scPlayedOut : FnScope ["tree", "ends", "parts", "block", "end", "part"] ["tree"] (defScope sPlayedOut) := ⟨rfl, rfl, rfl, by decide +kernel, rfl, by decide +kernel, by decide +kernel⟩
def pPlO (tr : V) (H : Hp) (Q : VK) (_ : XK) : Prop := ∃ (Es : List Str) (B : List Stm), D H tr (encT Es B) ∧ goodB B ∧ dpB B < 8 ∧ szB B ≤ 400000 ∧ Es.length ≤ 64 ∧ (∀ e ∈ endsB B, e ∈ Es) ∧ ∀ v H2, Frm [] H H2 → D H2 v (encBT B) → Q v H2
theorem ok_plO (T : Tx K mg) (A : At K mg "played_out" sPlayedOut ["tree"]) (C_played_block : Has P w K mg base CX0 "played_block" ["block", "names", "parts"] 18 (sp3 (pPlB 8))) : Has P w K mg base CX0 "played_out" ["tree"] 19 (sp1 pPlO) := by
  refine has_mk A scPlayedOut (fun vs H Q E h => by obtain ⟨_, rfl, _⟩ := h; rfl) fun f cdv A outer s H vs Q E hr h => ?_
  obtain ⟨tr, rfl, Es, B, dT, hg, hdp, hsz, hel, hen, q⟩ := h
  obtain ⟨a, e, p, b, rfl, ha, he, hp, dB⟩ := dT.tree
  refine ⟨_, (pss_cons (ps_asg (pv 0) (pg_tup rfl (pgs_cons (pg_name (i := 1) scPlayedOut.nd rfl (Or.inl rfl)) (pgs_cons (pg_name (i := 2) scPlayedOut.nd rfl (Or.inl rfl)) (pgs_cons (pg_name (i := 3) scPlayedOut.nd rfl (Or.inl rfl)) pgs_nil))))) (pss_one (ps_ret (pe_callTy k_tup (by rfl) T.tuple (by decide +kernel) (pa_cons (pe_h0 C_played_block (hr.mono (by omega)) (pa_cons (pv 3) (pa_cons (pe_dc (own := [("end", 4)]) rfl scPlayedOut.nd (pi_tup (pv 1)) (blkOk_by (own := [("end", 4)]) (N := ["tree", "ends", "parts", "block", "end", "part"]) (sc := defScope sPlayedOut) (by decide +kernel)) (fun _ _ _ _ _ => (pg_name (i := 4) scPlayedOut.nd rfl (Or.inl rfl))) (fun _ _ _ _ _ => pts_nil) (fun _ _ _ _ _ => (pv 4)) (fun _ _ _ _ _ => (pv 4))) (pa_cons (pe_dc (own := [("part", 5)]) rfl scPlayedOut.nd (pi_tup (pv 2)) (blkOk_by (own := [("part", 5)]) (N := ["tree", "ends", "parts", "block", "end", "part"]) (sc := defScope sPlayedOut) (by decide +kernel)) (fun _ _ _ _ _ => pg_no) (fun _ _ _ _ _ => pts_no) (fun _ _ _ _ _ => pe_no) (fun _ _ _ _ _ => pe_no)) pa_nil)))) pa_nil))))), ?_⟩
  wtm_at "kk"
  refine g_st (σ' := [some (.ref a), none, none, none, none, none]) rfl ?_
  wtm_at "go"
  refine KDc.mk (walk_tup (xs := Es.map V.str)) fun Dr hD => ⟨fun i H' => Frm [] H H' ∧ ∃ kvs, H' Dr = some (.dK kvs) ∧ kvs.length ≤ i ∧ NmOk kvs (Es.take i), ⟨Frm.new hD, [], upd_same, Nat.le_refl _, by simp [NmOk]⟩, fun i H' _ h => SqT.of (h.1.get0 he), fun i x H1 H2 hi h y => ?_, fun H' h => ?_⟩
  · obtain ⟨rfl, hx⟩ := y
    obtain ⟨z, hz, rfl⟩ := getMapStr hx
    obtain ⟨fH, kvs, hk, hl, hn⟩ := h
    rw [List.length_map] at hi
    wtm_at "wi"
    wtm_at "go"
    refine g_dputN hk (by omega) ⟨fH.loc hD, _, upd_same, by have := length_putK kvs (Sum.inr z) (.str z); omega, fun y hy => ?_⟩
    rw [valV_put]
    by_cases c : (Sum.inr y : Key) = Sum.inr z
    · rw [if_pos c, Sum.inr.inj c]
    · rw [if_neg c]
      rw [take_snoc hz] at hy
      rcases List.mem_append.mp hy with hy | hy
      · exact hn y hy
      · exact absurd (by rw [List.mem_singleton.mp hy]) c
  · obtain ⟨fH, kvs, hk, _, hn⟩ := h
    rw [List.length_map, List.take_length] at hn
    wtm_at "go"
    refine KDc.nilT (fH.get0 hp) (fun dp H2 n2 f2 h2 => ?_)
    wtm_at "go"
    have f02 : Frm [] H H2 := fH.trans f2
    refine to3 ⟨B, Dr, kvs, dB.frm f02, hdp, hg, hsz, rfl, f2.get0 hk, fun y hy => hn y (hen y hy), fun l H3 vs n3 f3 h3 d3 => ?_⟩
    wtm_at "go"
    rename_i p4 H4 f4 h4
    exact q _ H4 (by wtm_at "fr") (.tup h4 (d3.frm f4))
end

section
variable {P : Program} {w : World} {K : PySem.W.Frag} {mg : Str → Option Value} {base : Heap} {CI fI : Addr}
abbrev sSizeOf : Stmt := top 40
theorem scSizeOf : FnScope ["block", "total", "statement"] ["block"] (defScope sSizeOf) := ⟨rfl, rfl, rfl, by decide +kernel, rfl, by decide +kernel, by decide +kernel⟩
def pSz (n : Nat) (bl : V) (H : Hp) (Q : VK) (_ : XK) : Prop := ∃ b : List Stm, D H bl (encBT b) ∧ dpB b < n ∧ Q (.int (szB b : Nat)) H
theorem ok_sz (T : Tx K mg) (A : At K mg "size_of" sSizeOf ["block"]) : ∀ n, Has P w K mg base CX0 "size_of" ["block"] (n + 1) (sp1 (pSz n))
  | 0 => has_no A fun vs H Q E h => by obtain ⟨_, _, _, _, h, _⟩ := h; exact absurd h (Nat.not_lt_zero _)
  | n + 1 => by
    have C_size_of := ok_sz T A n
    refine has_mk A scSizeOf (fun vs H Q E h => by obtain ⟨_, rfl, _⟩ := h; rfl) fun f cdv A outer s H vs Q E hr h => ?_
    obtain ⟨bl, rfl, b, dB, hdp, q⟩ := h
    obtain ⟨ab, xs, rfl, hb, dX⟩ := dB.tupE
    refine ⟨_, (pss_cons (ps_set (i := 1) scSizeOf.nd rfl (Or.inl rfl) pe_int) (pss_cons (ps_for PassesOwn.never rfl (pi_tup (pv 0)) (pg_name (i := 2) scSizeOf.nd rfl (Or.inl rfl)) (pss_cons (ps_aug (i := 1) scSizeOf.nd rfl (Or.inl rfl) pe_int ip_add) (pss_one (ps_if (pt_cmpR op_eq (pe_ix ix_tup (pv 2) pe_int (fun _ _ => rfl)) pe_str (nomark _)) (pss_one (ps_aug (i := 1) scSizeOf.nd rfl (Or.inl rfl) (pe_op k_add (pe_h0 C_size_of (hr.mono (by omega)) (pa_cons (pe_ix ix_tup (pv 2) pe_int (fun _ _ => rfl)) pa_nil)) (pe_h0 C_size_of (hr.mono (by omega)) (pa_cons (pe_ix ix_tup (pv 2) pe_int (fun _ _ => rfl)) pa_nil))) ip_add)) (pss_one (ps_if (pt_cmpR op_eq (pe_ix ix_tup (pv 2) pe_int (fun _ _ => rfl)) pe_str (nomark _)) (pss_one (ps_aug (i := 1) scSizeOf.nd rfl (Or.inl rfl) (pe_h0 C_size_of (hr.mono (by omega)) (pa_cons (pe_ix ix_tup (pv 2) pe_int (fun _ _ => rfl)) pa_nil)) ip_add)) pss_nil)))))) (pss_one (ps_ret (pv 1))))), ?_⟩
    wtm_at "kk"
    refine g_st (σ' := [some (.ref ab), none, none]) rfl ?_
    wtm_at "go"
    refine KForT.mk (xs := xs) (fun i σ H' => ∃ x2, σ = [some (.ref ab), some (.int (szB (b.take i) : Nat)), x2] ∧ H' = H)
      (fun i σ H' _ h => by obtain ⟨_, _, rfl⟩ := h; exact hb) ⟨none, rfl, rfl⟩ (fun i x σ H' hx h => ?_) (fun σ H' h => ?_)
    · obtain ⟨x2, rfl, rfl⟩ := h
      obtain ⟨sm, hs, dS⟩ := dX.stm hx
      have hsm := List.mem_of_getElem? hs
      have h1 := dp_mem hsm
      rw [take_snoc hs, szB_snoc]
      cases sm with
      | msg f t l v y =>
        obtain ⟨b', x0, x1, x2, x3, x4, x5, rfl, hb', d0, d1, d2, d3, d4, d5⟩ := D.t6 dS
        cases d0
        wtm_at "go"
        exact ⟨_, rfl, rfl⟩
      | set e y v =>
        obtain ⟨b', x0, x1, x2, x3, rfl, hb', d0, d1, d2, d3⟩ := D.t4 dS
        cases d0
        wtm_at "go"
        exact ⟨_, rfl, rfl⟩
      | ask e y =>
        obtain ⟨b', x0, x1, x2, rfl, hb', d0, d1, d2⟩ := D.t3 dS
        cases d0
        wtm_at "go"
        exact ⟨_, rfl, rfl⟩
      | call p es =>
        obtain ⟨b', x0, x1, x2, rfl, hb', d0, d1, d2⟩ := D.t3 dS
        cases d0
        wtm_at "go"
        exact ⟨_, rfl, rfl⟩
      | ite e v y n =>
        obtain ⟨b', x0, x1, x2, x3, x4, rfl, hb', d0, d1, d2, d3, d4⟩ := D.t5 dS
        cases d0
        have z1 := dp_inn (s := .ite e v y n) (b := y) (by simp [inn])
        have z2 := dp_inn (s := .ite e v y n) (b := n) (by simp [inn])
        wtm_at "go"
        refine to1 ⟨y, d3, by omega, ?_⟩
        wtm_at "go"
        refine to1 ⟨n, d4, by omega, ?_⟩
        wtm_at "go"
        refine ⟨some (.ref b'), ?_, rfl⟩
        rw [show szB (b.take i) + (Stm.ite e v y n).sz = szB (b.take i) + 1 + (szB y + szB n) from by simp only [Stm.sz]; omega]
        rfl
      | whl e v c =>
        obtain ⟨b', x0, x1, x2, x3, rfl, hb', d0, d1, d2, d3⟩ := D.t4 dS
        cases d0
        have z1 := dp_inn (s := .whl e v c) (b := c) (by simp [inn])
        wtm_at "go"
        refine to1 ⟨c, d3, by omega, ?_⟩
        wtm_at "go"
        refine ⟨some (.ref b'), ?_, rfl⟩
        rw [Stm.sz, ← Nat.add_assoc]
        rfl
    · obtain ⟨x2, rfl, rfl⟩ := h
      rw [dX.encLen, List.take_length]
      wtm_at "go"
      exact q
abbrev sLayOut : Stmt := top 41
theorem scLayOut : FnScope ["block", "first", "behind", "statements", "follows", "at", "index", "statement", "size", "goal", "inside"] ["block", "first", "behind", "statements", "follows"] (defScope sLayOut) := ⟨rfl, rfl, rfl, by decide +kernel, rfl, by decide +kernel, by decide +kernel⟩
def pLay (n : Nat) (bl fi be st fo : V) (H : Hp) (Q : VK) (_ : XK) : Prop := ∃ (b : List Stm) (p g : Nat) (ls lf : Addr) (xs ys : List V), D H bl (encBT b) ∧ dpB b < n ∧ goodB b ∧ fi = .int (p : Nat) ∧ be = .int (g : Nat) ∧ st = .ref ls ∧ fo = .ref lf ∧ ls ≠ lf ∧ H ls = some (.lst xs) ∧ H lf = some (.lst ys) ∧
  xs.length + szB b ≤ 800000 ∧ ys.length + szB b ≤ 800000 ∧ ∀ H2, LyI H ls lf xs ys (rowB p g b) H2 → Q .non H2
theorem ok_lay (T : Tx K mg) (A : At K mg "lay_out" sLayOut ["block", "first", "behind", "statements", "follows"]) (C_size_of : ∀ n, Has P w K mg base CX0 "size_of" ["block"] (n + 1) (sp1 (pSz n))) : ∀ n, Has P w K mg base CX0 "lay_out" ["block", "first", "behind", "statements", "follows"] (n + 2) (sp5 (pLay n))
  | 0 => has_no A fun vs H Q E h => by obtain ⟨_, _, _, _, _, _, _, _, _, _, _, _, _, _, h, _⟩ := h; exact absurd h (Nat.not_lt_zero _)
  | n + 1 => by
    have C_lay_out := ok_lay T A C_size_of n
    have C_size_of := C_size_of (n + 1)
    refine has_mk A scLayOut (fun vs H Q E h => by obtain ⟨_, _, _, _, _, rfl, _⟩ := h; rfl) fun f cdv A outer s H vs Q E hr h => ?_
    obtain ⟨bl, fi, be, st, fo, rfl, b, p, g, ls, lf, zs, ws, dB, hdp, hg, rfl, rfl, rfl, rfl, hne, hls, hlf, hlz, hlw, q⟩ := h
    obtain ⟨ab, xs, rfl, hb, dX⟩ := dB.tupE
    have hxl := dX.encLen
    refine ⟨_, (pss_cons (ps_set (i := 5) scLayOut.nd rfl (Or.inl rfl) (pv 1)) (pss_one (ps_for PassesOwn.never rfl (pi_enumT (by rfl) T.enumerate (pa_cons (pv 0) pa_nil)) (pg_tup rfl (pgs_cons (pg_name (i := 6) scLayOut.nd rfl (Or.inl rfl)) (pgs_cons (pg_name (i := 7) scLayOut.nd rfl (Or.inl rfl)) pgs_nil))) (pss_cons (ps_set (i := 8) scLayOut.nd rfl (Or.inl rfl) (pe_h0 C_size_of (hr.mono (by omega)) (pa_cons (pe_tup (pa_cons (pv 7) pa_nil)) pa_nil))) (pss_cons (ps_set (i := 9) scLayOut.nd rfl (Or.inl rfl) (pe_ifExp (pt_cmpR k_lt (pe_op k_add (pv 6) pe_int) (pe_callB k_len (by rfl) T.len PySem.boot_len (pa_cons (pv 0) pa_nil)) (nomark _)) (pe_op k_add (pv 5) (pv 8)) (pv 2))) (pss_cons (ps_if (pt_cmpR op_eq (pe_ix ix_tup (pv 7) pe_int (fun _ _ => rfl)) pe_str (nomark _)) (pss_cons (ps_set (i := 10) scLayOut.nd rfl (Or.inl rfl) (pe_h0 C_size_of (hr.mono (by omega)) (pa_cons (pe_ix ix_tup (pv 7) pe_int (fun _ _ => rfl)) pa_nil))) (pss_cons (ps_expr (pe_bm PySem.F.plainAttrs_list PySem.F.slot_list_append PySem.F.type_list_append mt_append (pv 3) (pa_cons (pe_slice sl_tupA (pv 7) po_none (po_some pe_int)) pa_nil))) (pss_cons (ps_expr (pe_bm PySem.F.plainAttrs_list PySem.F.slot_list_append PySem.F.type_list_append mt_append (pv 4) (pa_cons (pe_tup (pa_cons (pe_ifExp (pt_cmpR k_gt (pv 10) pe_int (nomark _)) (pe_op k_add (pv 5) pe_int) (pv 9)) (pa_cons (pe_ifExp (pt_truth (pe_ix ix_tup (pv 7) pe_int (fun _ _ => rfl)) (by intro _; rfl)) (pe_op k_add (pe_op k_add (pv 5) pe_int) (pv 10)) (pv 9)) pa_nil))) pa_nil))) (pss_cons (ps_expr (pe_h0 C_lay_out (hr.mono (by omega)) (pa_cons (pe_ix ix_tup (pv 7) pe_int (fun _ _ => rfl)) (pa_cons (pe_op k_add (pv 5) pe_int) (pa_cons (pv 9) (pa_cons (pv 3) (pa_cons (pv 4) pa_nil))))))) (pss_one (ps_expr (pe_h0 C_lay_out (hr.mono (by omega)) (pa_cons (pe_ix ix_tup (pv 7) pe_int (fun _ _ => rfl)) (pa_cons (pe_op k_add (pe_op k_add (pv 5) pe_int) (pv 10)) (pa_cons (pv 9) (pa_cons (pv 3) (pa_cons (pv 4) pa_nil)))))))))))) (pss_one (ps_if (pt_cmpR op_eq (pe_ix ix_tup (pv 7) pe_int (fun _ _ => rfl)) pe_str (nomark _)) (pss_cons (ps_expr (pe_bm PySem.F.plainAttrs_list PySem.F.slot_list_append PySem.F.type_list_append mt_append (pv 3) (pa_cons (pe_slice sl_tupA (pv 7) po_none (po_some pe_int)) pa_nil))) (pss_cons (ps_expr (pe_bm PySem.F.plainAttrs_list PySem.F.slot_list_append PySem.F.type_list_append mt_append (pv 4) (pa_cons (pe_tup (pa_cons (pe_ifExp (pt_truth (pe_ix ix_tup (pv 7) pe_int (fun _ _ => rfl)) (by intro _; rfl)) (pe_op k_add (pv 5) pe_int) (pv 5)) (pa_cons (pv 9) pa_nil))) pa_nil))) (pss_one (ps_expr (pe_h0 C_lay_out (hr.mono (by omega)) (pa_cons (pe_ix ix_tup (pv 7) pe_int (fun _ _ => rfl)) (pa_cons (pe_op k_add (pv 5) pe_int) (pa_cons (pv 5) (pa_cons (pv 3) (pa_cons (pv 4) pa_nil)))))))))) (pss_cons (ps_expr (pe_bm PySem.F.plainAttrs_list PySem.F.slot_list_append PySem.F.type_list_append mt_append (pv 3) (pa_cons (pv 7) pa_nil))) (pss_one (ps_expr (pe_bm PySem.F.plainAttrs_list PySem.F.slot_list_append PySem.F.type_list_append mt_append (pv 4) (pa_cons (pe_tup (pa_cons (pv 9) pa_nil)) pa_nil)))))))) (pss_one (ps_aug (i := 5) scLayOut.nd rfl (Or.inl rfl) (pv 8) ip_add)))))))), ?_⟩
    wtm_at "kk"
    refine g_st (σ' := [some (.ref ab), some (.int (p : Nat)), some (.int (g : Nat)), some (.ref ls), some (.ref lf), none, none, none, none, none, none]) rfl ?_
    wtm_at "go"
    refine KForJ.mk (walk_enumT (xs := xs)) (fun i σ H' => ∃ x6 x7 x8 x9 x10, σ = [some (.ref ab), some (.int (p : Nat)), some (.int (g : Nat)), some (.ref ls), some (.ref lf), some (.int (p + szB (b.take i) : Nat)), x6, x7, x8, x9, x10] ∧
        LyI H ls lf zs ws (rowB p (if 0 < szB (b.drop i) then p + szB (b.take i) else g) (b.take i)) H')
      ⟨none, none, none, none, none, rfl, .start hls hlf⟩ (fun i σ H' _ h => by obtain ⟨_, _, _, _, _, _, h⟩ := h; exact SqT.of (h.fr.tupS hb)) (fun i v σ H0 H1 hi h y => ?_) (fun σ H' h => ?_)
    · obtain ⟨x6, x7, x8, x9, x10, rfl, h⟩ := h
      obtain ⟨Tp, x, y, rfl, hT, rfl, ex, hx⟩ := y
      cases ex
      obtain ⟨sm, hs, dS⟩ := (dX.frm h.fr).stm hx
      have hsm := List.mem_of_getElem? hs
      have gs := hg.at_ hsm
      have h1 := dp_mem hsm
      have h2 := sz_mem hsm
      have hz2 : szB (b.take i) + sm.sz ≤ szB b := by
        have := szB_take b (i + 1)
        rw [take_snoc hs, szB_snoc] at this
        exact this
      have f1 : Frm [] H0 (upd H0 Tp (.tup [.int (i : Nat), y])) := Frm.new hT
      have h' := h.frm f1
      have dS' := dS.frm f1
      have hrow := row_snoc p g b i sm hs
      generalize hH1 : upd H0 Tp (.tup [.int (i : Nat), y]) = H1 at h' dS' f1 ⊢
      have hTp : H1 Tp = some (.tup [.int (i : Nat), y]) := by rw [← hH1]; exact upd_same
      have hb1 : H1 ab = some (.tup xs) := f1.tupS (h.fr.tupS hb)
      wtm_at "go"
      rename_i p2 H2 n2 f2 h2'
      refine to1 ⟨[sm], .tup h2' (.one (dS'.frm f2)), Nat.lt_of_le_of_lt (dp_one hsm) hdp, ?_⟩
      have hsz1 : szB [sm] = sm.sz := by simp [szB]
      rw [hsz1]
      generalize hg2 : (if 0 < szB (b.drop (i + 1)) then p + szB (b.take i) + sm.sz else g) = g2 at hrow
      have hRl : (rowB p (if 0 < szB (b.drop i) then p + szB (b.take i) else g) (b.take i)).length = szB (b.take i) := rowB_len _ _ _
      generalize rowB p (if 0 < szB (b.drop i) then p + szB (b.take i) else g) (b.take i) = RR at h' hrow hRl
      have fin : ∀ (x6 x7 x8 x9 x10 : Option V) (Hn : Hp), LyI H ls lf zs ws (RR ++ rowS (p + szB (b.take i)) g2 sm) Hn → ∃ y6 y7 y8 y9 y10,
          [some (V.ref ab), some (.int (p : Nat)), some (.int (g : Nat)), some (.ref ls), some (.ref lf), some (.int (((p + szB (b.take i) : Nat) : Int) + (sm.sz : Nat))), x6, x7, x8, x9, x10] = [some (V.ref ab), some (.int (p : Nat)), some (.int (g : Nat)), some (.ref ls), some (.ref lf), some (.int (p + szB (b.take (i + 1)) : Nat)), y6, y7, y8, y9, y10] ∧
          LyI H ls lf zs ws (rowB p (if 0 < szB (b.drop (i + 1)) then p + szB (b.take (i + 1)) else g) (b.take (i + 1))) Hn := fun x6 x7 x8 x9 x10 Hn hh => by
        refine ⟨x6, x7, x8, x9, x10, ?_, by rw [hrow]; exact hh⟩
        rw [take_snoc hs, szB_snoc, ← Nat.add_assoc]
        rfl
      have h2l := h'.frm f2
      have dS2 := dS'.frm f2
      have hb2 := f2.get0 hb1
      clear hrow h' dS' dS
      have hdr := drop_pos (b := b) (i := i)
      generalize hpp : p + szB (b.take i) = pp at fin hg2 ⊢
      wtm_at "gx"
      with_reducible refine g_seqM (fun σ1 H1 => σ1 = [some (.ref ab), some (.int (p : Nat)), some (.int (g : Nat)), some (.ref ls), some (.ref lf), some (.int (pp : Nat)), some (.int (i : Nat)), some y, some (.int (sm.sz : Nat)), some (.int (g2 : Nat)), x10] ∧ H2 = H1) (fun σ1 H5 hM => ?_) (fun N hN => ?_)
      rotate_left
      · wtm_at "go"
        refine g_ite (fun c => ?_) fun c => ?_
        · have c' : i + 1 < b.length := by have := of_decide_eq_true c; omega
          rw [if_pos (hdr.mpr c')] at hg2
          wtm_at "go"
          refine hN _ _ ⟨?_, rfl⟩
          rw [← hg2]
          rfl
        · have c' : ¬ i + 1 < b.length := by have := of_decide_eq_false c; omega
          rw [if_neg (fun z => c' (hdr.mp z))] at hg2
          wtm_at "go"
          refine hN _ _ ⟨?_, rfl⟩
          rw [← hg2]
      obtain ⟨rfl, rfl⟩ := hM
      obtain ⟨us, vs, e1, e2, l1, l2⟩ := h2l.get
      cases sm with
      | msg f t l v w =>
        obtain ⟨b', x0, x1, x2, x3, x4, x5, rfl, hb', d0, d1, d2, d3, d4, d5⟩ := D.t6 dS2
        cases d0
        wtm_at "go"
        refine g_app e1 (by omega) ?_
        have e2' : upd H2 ls (.lst (us ++ [.ref b'])) lf = some (.lst vs) := by rw [upd_ne (Ne.symm hne)]; exact e2
        wtm_at "go"
        rename_i p4 H4 n4 f4 h4
        refine g_app (f4.get0 e2') (by omega) ?_
        wtm_at "go"
        exact fin _ _ _ _ _ _ (h2l.put hne e1 e2 f4 dS2 (.tup h4 (.one (.int _))))
      | set e w v =>
        obtain ⟨b', x0, x1, x2, x3, rfl, hb', d0, d1, d2, d3⟩ := D.t4 dS2
        cases d0
        wtm_at "go"
        refine g_app e1 (by omega) ?_
        have e2' : upd H2 ls (.lst (us ++ [.ref b'])) lf = some (.lst vs) := by rw [upd_ne (Ne.symm hne)]; exact e2
        wtm_at "go"
        rename_i p4 H4 n4 f4 h4
        refine g_app (f4.get0 e2') (by omega) ?_
        wtm_at "go"
        exact fin _ _ _ _ _ _ (h2l.put hne e1 e2 f4 dS2 (.tup h4 (.one (.int _))))
      | ask e w =>
        obtain ⟨b', x0, x1, x2, rfl, hb', d0, d1, d2⟩ := D.t3 dS2
        cases d0
        wtm_at "go"
        refine g_app e1 (by omega) ?_
        have e2' : upd H2 ls (.lst (us ++ [.ref b'])) lf = some (.lst vs) := by rw [upd_ne (Ne.symm hne)]; exact e2
        wtm_at "go"
        rename_i p4 H4 n4 f4 h4
        refine g_app (f4.get0 e2') (by omega) ?_
        wtm_at "go"
        exact fin _ _ _ _ _ _ (h2l.put hne e1 e2 f4 dS2 (.tup h4 (.one (.int _))))
      | call q es => exact False.elim gs
      | ite e v y n =>
        have m1 : y ∈ inn (.ite e v y n) := by simp [inn]
        have z1 := dp_inn m1
        have q1 := sz_innM m1
        have m2 : n ∈ inn (.ite e v y n) := by simp [inn]
        have z2 := dp_inn m2
        have q2 : 1 + szB y + szB n = (Stm.ite e v y n).sz := rfl
        obtain ⟨b', x0, x1, x2, x3, x4, rfl, hb', d0, d1, d2, d3, d4⟩ := D.t5 dS2
        cases d0
        wtm_at "go"
        refine to1 ⟨y, d3, by omega, ?_⟩
        wtm_at "go"
        rename_i p3 H3 f3 h3
        have e1' := f3.get0 e1
        have e2' := f3.get0 e2
        refine g_app e1' (by omega) ?_
        have e2a : upd H3 ls (.lst (us ++ [.ref p3])) lf = some (.lst vs) := by rw [upd_ne (Ne.symm hne)]; exact e2'
        have f34 : Frm [ls] H3 (upd H3 ls (.lst (us ++ [.ref p3]))) := Frm.mut List.mem_cons_self e1' nt_lst
        have hb4 := f34.tupS (f3.tupS hb')
        have dP3 : D H3 (.ref p3) (encF (.ite e v)) := .tup h3 (.cons (.str _) (.cons (d1.frm f3) (.cons (d2.frm f3) .nil)))
        wtm_at "gx"
        with_reducible refine g_seqM (fun σ1 H1 => σ1 = [some (.ref ab), some (.int (p : Nat)), some (.int (g : Nat)), some (.ref ls), some (.ref lf), some (.int (pp : Nat)), some (.int (i : Nat)), some (.ref b'), some (.int ((Stm.ite e v y n).sz : Nat)), some (.int (g2 : Nat)), some (.int (szB y : Nat))] ∧ LyI H ls lf zs ws (RR ++ [(.ite e v, [if 0 < szB y then pp + 1 else g2, if 0 < szB n then pp + 1 + szB y else g2])]) H1 ∧ Frm [ls, lf] H2 H1) (fun σ1 H5 hM => ?_) (fun N hN => ?_)
        · obtain ⟨rfl, h5, f5⟩ := hM
          obtain ⟨us5, vs5, e5, e6, l5, l6⟩ := h5.get
          rw [List.length_append, List.length_singleton] at l5 l6
          wtm_at "go"
          refine to5 ⟨y, pp + 1, g2, ls, lf, us5, vs5, d3.frm f5, by omega, hg.inn hsm m1, rfl, rfl, rfl, rfl, hne, e5, e6, by omega, by omega, fun H6 l7 => ?_⟩
          have h6 := h5.more e5 e6 l7
          have f6 : Frm [ls, lf] H2 H6 := f5.trans l7.fr
          obtain ⟨us6, vs6, e7, e8, l9, l10⟩ := h6.get
          rw [List.length_append, List.length_append, rowB_len, List.length_singleton] at l9 l10
          wtm_at "go"
          refine to5 ⟨n, pp + 1 + szB y, g2, ls, lf, us6, vs6, d4.frm f6, by omega, hg.inn hsm m2, rfl, rfl, rfl, rfl, hne, e7, e8, by omega, by omega, fun H7 l8 => ?_⟩
          have h7 := h6.more e7 e8 l8
          wtm_at "go"
          refine fin _ _ _ _ _ _ ?_
          rw [List.append_assoc, List.append_assoc] at h7
          exact h7
        · wtm_at "go"
          refine g_ite (fun c1 => ?_) fun c1 => ?_
          · have c1' : 0 < szB y := by have := of_decide_eq_true c1; omega
            wtm_at "go"
            refine ⟨_, tru_tup (d4.frm (f3.any.trans f34)), ?_⟩
            refine g_ite (fun c2 => ?_) fun c2 => ?_
            · wtm_at "go"
              rename_i p4 H4 n4 f4 h4
              refine g_app (f4.get0 e2a) (by omega) ?_
              refine hN _ _ ⟨rfl, ?_, ?_⟩
              · rw [if_pos c1', if_pos (of_decide_eq_true c2)]
                exact (h2l.frm f3).put hne e1' e2' f4 dP3 (.tup h4 (.cons (.int _) (.cons (.int _) .nil)))
              · exact ((f3.any.trans (f34.mono (by simp))).trans f4.any).trans (Frm.mut (by simp) (f4.get0 e2a) nt_lst)
            · wtm_at "go"
              rename_i p4 H4 n4 f4 h4
              refine g_app (f4.get0 e2a) (by omega) ?_
              refine hN _ _ ⟨rfl, ?_, ?_⟩
              · rw [if_pos c1', if_neg (of_decide_eq_false c2)]
                exact (h2l.frm f3).put hne e1' e2' f4 dP3 (.tup h4 (.cons (.int _) (.cons (.int _) .nil)))
              · exact ((f3.any.trans (f34.mono (by simp))).trans f4.any).trans (Frm.mut (by simp) (f4.get0 e2a) nt_lst)
          · have c1' : ¬ 0 < szB y := by have := of_decide_eq_false c1; omega
            wtm_at "go"
            refine ⟨_, tru_tup (d4.frm (f3.any.trans f34)), ?_⟩
            refine g_ite (fun c2 => ?_) fun c2 => ?_
            · wtm_at "go"
              rename_i p4 H4 n4 f4 h4
              refine g_app (f4.get0 e2a) (by omega) ?_
              refine hN _ _ ⟨rfl, ?_, ?_⟩
              · rw [if_neg c1', if_pos (of_decide_eq_true c2)]
                exact (h2l.frm f3).put hne e1' e2' f4 dP3 (.tup h4 (.cons (.int _) (.cons (.int _) .nil)))
              · exact ((f3.any.trans (f34.mono (by simp))).trans f4.any).trans (Frm.mut (by simp) (f4.get0 e2a) nt_lst)
            · wtm_at "go"
              rename_i p4 H4 n4 f4 h4
              refine g_app (f4.get0 e2a) (by omega) ?_
              refine hN _ _ ⟨rfl, ?_, ?_⟩
              · rw [if_neg c1', if_neg (of_decide_eq_false c2)]
                exact (h2l.frm f3).put hne e1' e2' f4 dP3 (.tup h4 (.cons (.int _) (.cons (.int _) .nil)))
              · exact ((f3.any.trans (f34.mono (by simp))).trans f4.any).trans (Frm.mut (by simp) (f4.get0 e2a) nt_lst)
      | whl e v c =>
        have m1 : c ∈ inn (.whl e v c) := by simp [inn]
        have z1 := dp_inn m1
        have q1 := sz_innM m1
        have q2 : 1 + szB c = (Stm.whl e v c).sz := rfl
        obtain ⟨b', x0, x1, x2, x3, rfl, hb', d0, d1, d2, d3⟩ := D.t4 dS2
        cases d0
        wtm_at "go"
        rename_i p3 H3 f3 h3
        have e1' := f3.get0 e1
        have e2' := f3.get0 e2
        refine g_app e1' (by omega) ?_
        have e2a : upd H3 ls (.lst (us ++ [.ref p3])) lf = some (.lst vs) := by rw [upd_ne (Ne.symm hne)]; exact e2'
        have f34 : Frm [ls] H3 (upd H3 ls (.lst (us ++ [.ref p3]))) := Frm.mut List.mem_cons_self e1' nt_lst
        have hb4 := f34.tupS (f3.tupS hb')
        have dP3 : D H3 (.ref p3) (encF (.whl e v)) := .tup h3 (.cons (.str _) (.cons (d1.frm f3) (.cons (d2.frm f3) .nil)))
        wtm_at "gx"
        with_reducible refine g_seqM (fun σ1 H1 => σ1 = [some (.ref ab), some (.int (p : Nat)), some (.int (g : Nat)), some (.ref ls), some (.ref lf), some (.int (pp : Nat)), some (.int (i : Nat)), some (.ref b'), some (.int ((Stm.whl e v c).sz : Nat)), some (.int (g2 : Nat)), x10] ∧ LyI H ls lf zs ws (RR ++ [(.whl e v, [if 0 < szB c then pp + 1 else pp, g2])]) H1 ∧ Frm [ls, lf] H2 H1) (fun σ1 H5 hM => ?_) (fun N hN => ?_)
        · obtain ⟨rfl, h5, f5⟩ := hM
          obtain ⟨us5, vs5, e5, e6, l5, l6⟩ := h5.get
          rw [List.length_append, List.length_singleton] at l5 l6
          wtm_at "go"
          refine to5 ⟨c, pp + 1, pp, ls, lf, us5, vs5, d3.frm f5, by omega, hg.inn hsm m1, rfl, rfl, rfl, rfl, hne, e5, e6, by omega, by omega, fun H6 l7 => ?_⟩
          have h6 := h5.more e5 e6 l7
          wtm_at "go"
          refine fin _ _ _ _ _ _ ?_
          rw [List.append_assoc] at h6
          exact h6
        · wtm_at "go"
          refine ⟨_, tru_tup (d3.frm (f3.any.trans f34)), ?_⟩
          refine g_ite (fun c2 => ?_) fun c2 => ?_
          · wtm_at "go"
            rename_i p4 H4 n4 f4 h4
            refine g_app (f4.get0 e2a) (by omega) ?_
            refine hN _ _ ⟨rfl, ?_, ?_⟩
            · rw [if_pos (of_decide_eq_true c2)]
              exact (h2l.frm f3).put hne e1' e2' f4 dP3 (.tup h4 (.cons (.int _) (.cons (.int _) .nil)))
            · exact ((f3.any.trans (f34.mono (by simp))).trans f4.any).trans (Frm.mut (by simp) (f4.get0 e2a) nt_lst)
          · wtm_at "go"
            rename_i p4 H4 n4 f4 h4
            refine g_app (f4.get0 e2a) (by omega) ?_
            refine hN _ _ ⟨rfl, ?_, ?_⟩
            · rw [if_neg (of_decide_eq_false c2)]
              exact (h2l.frm f3).put hne e1' e2' f4 dP3 (.tup h4 (.cons (.int _) (.cons (.int _) .nil)))
            · exact ((f3.any.trans (f34.mono (by simp))).trans f4.any).trans (Frm.mut (by simp) (f4.get0 e2a) nt_lst)
    · obtain ⟨x6, x7, x8, x9, x10, rfl, h⟩ := h
      have e1 : ¬ 0 < szB (b.drop xs.length) := by rw [hxl, List.drop_length]; exact Nat.lt_irrefl 0
      rw [if_neg e1, hxl, List.take_length] at h
      exact q H' h
end

theorem okF_ends {Es : List Str} {s : Stm} (h : okF Es s.flat) : ∀ e ∈ s.ends1, e ∈ Es := by
  intro e he
  cases s with
  | msg f t l v x =>
    obtain ⟨h1, h2, _⟩ := h
    simp only [Stm.ends1, List.mem_cons, List.not_mem_nil, or_false] at he
    rcases he with rfl | rfl
    · exact h1
    · exact h2
  | set a x v => rw [List.mem_singleton.mp he]; exact h
  | ask a x => rw [List.mem_singleton.mp he]; exact h
  | ite a v y n => rw [List.mem_singleton.mp he]; exact h
  | whl a v b => rw [List.mem_singleton.mp he]; exact h
  | call p es => exact False.elim h
theorem okTree_ends {Es : List Str} {B : List Stm} (h : okTree Es B = true) : ∀ e ∈ endsB B, e ∈ Es := by
  intro e he
  rw [okTree, Bool.and_eq_true, okAll, List.all_eq_true] at h
  obtain ⟨s, hs, he⟩ := List.mem_flatMap.mp he
  exact okF_ends (of_decide_eq_true (h.1 s hs)) e he
theorem goodRows {Es : List Str} {B : List Stm} (g : goodB B) (h : okTree Es B = true) : GoodR (rowB 0 (szB B) B) := by
  rw [okTree, Bool.and_eq_true, Bool.and_eq_true] at h
  refine ⟨fun r hr => rowB_ok B _ _ r hr, fun r hr => ?_, fun r hr y hy => ?_, ?_⟩
  · have hm : r.1 ∈ (rowB 0 (szB B) B).map (·.1) := List.mem_map.mpr ⟨r, hr, rfl⟩
    rw [rowB_flat] at hm
    obtain ⟨t, ht, et⟩ := List.mem_map.mp hm
    rw [← et]
    exact g t ht
  · rw [rowB_len]
    have := rowB_next B _ _ r hr y hy
    omega
  · rw [rowB_len]
    exact of_decide_eq_true h.2.2
theorem putF2 {e b : V} : putF ("block" : Str) b [(("ends" : Str), e)] = [(("ends" : Str), e), ("block", b)] := by
  simp only [putF, show ¬ (("ends" : Str) = "block") from by decide +kernel, if_false]
theorem putF3 {e b s : V} : putF ("statements" : Str) s [(("ends" : Str), e), ("block", b)] = [(("ends" : Str), e), ("block", b), ("statements", s)] := by
  simp only [putF, show ¬ (("ends" : Str) = "statements") from by decide +kernel, show ¬ (("block" : Str) = "statements") from by decide +kernel, if_false]
theorem putF4 {e b s n : V} : putF ("next" : Str) n [(("ends" : Str), e), ("block", b), ("statements", s)] = [(("ends" : Str), e), ("block", b), ("statements", s), ("next", n)] := by
  simp only [putF, show ¬ (("ends" : Str) = "next") from by decide +kernel, show ¬ (("block" : Str) = "next") from by decide +kernel, show ¬ (("statements" : Str) = "next") from by decide +kernel, if_false]
theorem lookB2 {e b : V} : List.lookup ("block" : Str) [(("ends" : Str), e), ("block", b)] = some b := by
  simp only [List.lookup, show (("block" : Str) == "ends") = false from by decide +kernel, show (("block" : Str) == "block") = true from by decide +kernel]
section
variable {P : Program} {w : World} {K : PySem.W.Frag} {mg : Str → Option Value} {base : Heap} {CI fI C fS : Addr}
abbrev sScoreInit : Stmt := inClass (top 42) 0
theorem scScoreInit : FnScope ["self", "tree", "statements", "follows"] ["self", "tree"] (defScope sScoreInit) := ⟨rfl, rfl, rfl, by decide +kernel, rfl, by decide +kernel, by decide +kernel⟩
def pScore (K : PySem.W.Frag) (C CI : Addr) (se tr : V) (H : Hp) (Q : VK) (E : XK) : Prop := ∃ (a dx : Addr) (Es : List Str) (B : List Stm), se = .ref a ∧ H a = some (.ins C dx []) ∧ D H tr (encT Es B) ∧ Es.Nodup ∧ Es.length ≤ 6 ∧ goodB B ∧ dpB B < 8 ∧ szB B ≤ 400000 ∧
  (okTree Es B = true → ∀ H2 e, Frm [a] H H2 → Scr K C H2 (.ref a) (.ref e) (rowB 0 (szB B) B) → H2 e = some (.tup (Es.map V.str)) → Q .non H2) ∧ (okTree Es B = false → ∀ d H2, E (.ref CI) d H2)
theorem ok_score (SC : ScC K C) (T : Tx K mg) (A : AtM K "__init__" "Score.__init__" sScoreInit ["self", "tree"] fS) (C_check_tree : Has P w K mg base (L2.CX P w) "check_tree" ["tree"] 11 (sp1 (pTree CI)))
    (C_played_out : Has P w K mg base CX0 "played_out" ["tree"] 19 (sp1 pPlO)) (C_size_of : Has P w K mg base CX0 "size_of" ["block"] 9 (sp1 (pSz 8))) (C_lay_out : Has P w K mg base CX0 "lay_out" ["block", "first", "behind", "statements", "follows"] 10 (sp5 (pLay 8))) :
    HasM P w K mg base (L2.CX P w) fS ["self", "tree"] 20 (sp2 (pScore K C CI)) := by
  refine hasM_mkX A scScoreInit (fun vs H Q E h => by obtain ⟨_, _, rfl, _⟩ := h; rfl) fun cdv A outer s H vs Q E hr h => ?_
  obtain ⟨se, tr, rfl, a, dx, Es, B, rfl, ha, dT, nd, hle, hg, hdp, hsz, q1, q2⟩ := h
  obtain ⟨at', e, pp, b, rfl, hat, he, hpp, dB⟩ := dT.tree
  refine ⟨_, (pss_cons (ps_expr (pe_has C_check_tree (hr.mono (by omega)) (passes_call (takes_of rfl rfl rfl rfl) fun _ _ _ _ h => h) (pa_cons (pv 1) pa_nil))) (pss_cons (ps_fld (pv 0) (pe_ix ix_tup (pv 1) pe_int (fun _ _ => rfl)) rfl) (pss_cons (ps_fld (pv 0) (pe_h0 C_played_out (hr.mono (by omega)) (pa_cons (pv 1) pa_nil)) rfl) (pss_cons (ps_set (i := 2) scScoreInit.nd rfl (Or.inl rfl) (pe_lst pa_nil)) (pss_cons (ps_set (i := 3) scScoreInit.nd rfl (Or.inl rfl) (pe_lst pa_nil)) (pss_cons (ps_expr (pe_h0 C_lay_out (hr.mono (by omega)) (pa_cons (pe_fld (pv 0) rfl) (pa_cons pe_int (pa_cons (pe_h0 C_size_of (hr.mono (by omega)) (pa_cons (pe_fld (pv 0) rfl) pa_nil)) (pa_cons (pv 2) (pa_cons (pv 3) pa_nil))))))) (pss_cons (ps_fld (pv 0) (pe_callTy k_tup (by rfl) T.tuple (by decide +kernel) (pa_cons (pv 2) pa_nil)) rfl) (pss_one (ps_fld (pv 0) (pe_callTy k_tup (by rfl) T.tuple (by decide +kernel) (pa_cons (pv 3) pa_nil)) rfl))))))))), ?_⟩
  wtm_at "kk"
  refine g_st (σ' := [some (.ref a), some (.ref at'), none, none]) rfl ?_
  wtm_at "go"
  refine to1 ⟨Es, B, dT, nd, hle, hg, hdp, hsz, fun ok H1 f1 => ?_, q2⟩
  wtm_at "go"
  have ha1 := f1.get0 ha
  refine g_fsetI ha1 SC.cl SC.n1 (by show 0 < 1000; decide) ?_
  have fA : Frm [a] H1 (upd H1 a (.ins C dx [("ends", .ref e)])) := Frm.mut List.mem_cons_self ha1 nt_ins
  have dT2 := (dT.frm f1).frm fA
  show _
  wtm_at "go"
  refine to1 ⟨Es, B, dT2, hg, hdp, hsz, by omega, okTree_ends ok, fun bv H2 f2 dBv => ?_⟩
  wtm_at "go"
  have ha2 : H2 a = some (.ins C dx [("ends", .ref e)]) := f2.get0 upd_same
  refine g_fsetI ha2 SC.cl SC.n2 (by show 1 < 1000; decide) ?_
  rw [putF2]
  have fB : Frm [a] H2 (upd H2 a (.ins C dx [("ends", .ref e), ("block", bv)])) := Frm.mut List.mem_cons_self ha2 nt_ins
  have dBv2 := dBv.frm fB
  have ha3 : upd H2 a (.ins C dx [("ends", .ref e), ("block", bv)]) a = some (.ins C dx [("ends", .ref e), ("block", bv)]) := upd_same
  wtm_at "go"
  rename_i ls H3 n3 f3 h3 lf H4 n4 f4 h4
  have ha4 := f4.get0 (f3.get0 ha3)
  refine g_fldI ha4 SC.cl SC.n2 lookB2 ?_
  wtm_at "go"
  refine g_fldI ha4 SC.cl SC.n2 lookB2 ?_
  wtm_at "go"
  have f34 := f3.trans f4
  refine to1 ⟨B, dBv2.frm f34, hdp, ?_⟩
  wtm_at "go"
  have hne : ls ≠ lf := by rintro rfl; rw [h3] at n4; cases n4
  refine to5 ⟨B, 0, szB B, ls, lf, [], [], dBv2.frm f34, hdp, hg, rfl, rfl, rfl, rfl, hne, f4.get0 h3, h4, by simp; omega, by simp; omega, fun H5 l5 => ?_⟩
  obtain ⟨us, vs, e5, e6, d5, d6⟩ := l5.ex
  have hals : a ≠ ls := by rintro rfl; rw [ha3] at n3; cases n3
  have half : a ≠ lf := by rintro rfl; rw [f3.get0 ha3] at n4; cases n4
  have ha5 : H5 a = some (.ins C dx [("ends", .ref e), ("block", bv)]) := l5.fr.keep a _ (by simp [hals, half]) ha4
  wtm_at "go"
  rename_i p6 H6 f6 h6
  have ha6 := f6.get0 ha5
  refine g_fsetI ha6 SC.cl SC.n3 (by show 2 < 1000; decide) ?_
  rw [putF3]
  have fC : Frm [a] H6 (upd H6 a (.ins C dx [("ends", .ref e), ("block", bv), ("statements", .ref p6)])) := Frm.mut List.mem_cons_self ha6 nt_ins
  have e6' := fC.at1 (Ne.symm half) (f6.get0 e6)
  wtm_at "go"
  rename_i p7 H7 f7 h7
  have ha7 : H7 a = some (.ins C dx [("ends", .ref e), ("block", bv), ("statements", .ref p6)]) := f7.get0 upd_same
  refine g_fsetI ha7 SC.cl SC.n4 (by show 3 < 1000; decide) ?_
  rw [putF4]
  have fD : Frm [a] H7 (upd H7 a (.ins C dx [("ends", .ref e), ("block", bv), ("statements", .ref p6), ("next", .ref p7)])) := Frm.mut List.mem_cons_self ha7 nt_ins
  have f57 : Frm [a] H5 (upd H7 a (.ins C dx [("ends", .ref e), ("block", bv), ("statements", .ref p6), ("next", .ref p7)])) := ((f6.any.trans fC).trans f7.any).trans fD
  have f04 : Frm [a] H H4 := (((f1.any.trans fA).trans f2.any).trans fB).trans f34.any
  have nls : H ls = none := by
    have := n3
    rw [upd_ne (Ne.symm hals)] at this
    have := f2.back0 this
    rw [upd_ne (Ne.symm hals)] at this
    exact f1.back0 this
  have nlf : H lf = none := by
    have := f3.back0 n4
    rw [upd_ne (Ne.symm half)] at this
    have := f2.back0 this
    rw [upd_ne (Ne.symm half)] at this
    exact f1.back0 this
  have f45 : Frm [a] H H5 := ⟨fun c o hc hh => by
    have hc1 : c ≠ ls := ne_of_none hh nls
    have hc2 : c ≠ lf := ne_of_none hh nlf
    exact l5.fr.keep c o (by simp [hc1, hc2]) (f04.keep c o hc hh), fun c zs hh => l5.fr.tup c zs (f04.tup c zs hh)⟩
  refine q1 ok _ e (f45.trans f57) ⟨a, dx, bv, p6, p7, us, vs, rfl, upd_same, SC, ?_, d5.frm f57, ?_, d6.frm f57, goodRows hg ok⟩ ?_
  · exact fD.tupS (f7.tupS (fC.tupS (by rw [List.nil_append] at h6; exact h6)))
  · exact fD.tupS (by rw [List.nil_append] at h7; exact h7)
  · exact (f45.trans f57).tupS he
end

section
variable {P : Program} {w : World} {K : PySem.W.Frag} {mg : Str → Option Value} {base : Heap}
abbrev sLawTake : Stmt := top 45
theorem scLawTake : FnScope ["_law_tape_here", "_law_many", "_law_drawn", "_law_mixed"] ["_law_tape_here", "_law_many"] (defScope sLawTake) := ⟨rfl, rfl, rfl, by decide +kernel, rfl, by decide +kernel, by decide +kernel⟩
def pTake (tp mn : V) (H : Hp) (Q : VK) (_ : XK) : Prop := ∃ (d c : Addr) (m : Nat), tp = .ref d ∧ mn = .int (m : Nat) ∧ 0 < m ∧ m ≤ 1000000 ∧ Tape H d c ∧ ∀ (r : Nat) H2, r < m → Frm [d] H H2 → Tape H2 d c → Q (.int (r : Nat)) H2
theorem ok_take (T : Tx K mg) (A : At K mg "_law_take" sLawTake ["_law_tape_here", "_law_many"]) : Has P w K mg base CX0 "_law_take" ["_law_tape_here", "_law_many"] 1 (sp2 pTake) := by
  refine has_mk A scLawTake (fun vs H Q E h => by obtain ⟨_, _, rfl, _⟩ := h; rfl) fun f cdv A outer s H vs Q E hr h => ?_
  obtain ⟨tp, mn, rfl, d, c, m, rfl, rfl, hm, hm2, hT, q⟩ := h
  refine ⟨_, (pss_cons (ps_if (PW.pt (pw_and (pt_cmpR op_eq (pe_dget (hu_of hr) (pv 0) pe_str (fun _ _ => rfl)) pe_int (nomark _)) (pw_and1 (pt_cmpR k_lt (pe_dget (hu_of hr) (pv 0) pe_str (fun _ _ => rfl)) (pe_callB k_len (by rfl) T.len PySem.boot_len (pa_cons (pe_dget (hu_of hr) (pv 0) pe_str (fun _ _ => rfl)) pa_nil)) (nomark _))))) (pss_cons (ps_dput (hu_of hr) (pv 0) pe_str (pe_ix ix_list (pe_dget (hu_of hr) (pv 0) pe_str (fun _ _ => rfl)) (pe_dget (hu_of hr) (pv 0) pe_str (fun _ _ => rfl)) (fun _ _ => rfl)) rfl) (pss_one (ps_dput (hu_of hr) (pv 0) pe_str (pe_op k_add (pe_dget (hu_of hr) (pv 0) pe_str (fun _ _ => rfl)) pe_int) rfl))) pss_nil) (pss_cons (ps_if (pt_cmpR k_gt (pe_dget (hu_of hr) (pv 0) pe_str (fun _ _ => rfl)) pe_int (nomark _)) (pss_cons (ps_set (i := 2) scLawTake.nd rfl (Or.inl rfl) (pe_op k_mod (pe_callTy k_int1 (by rfl) T.int (by decide +kernel) (pa_cons (pe_dget (hu_of hr) (pv 0) pe_str (fun _ _ => rfl)) pa_nil)) (pv 1))) (pss_cons (ps_dput (hu_of hr) (pv 0) pe_str (pe_op k_div (pe_dget (hu_of hr) (pv 0) pe_str (fun _ _ => rfl)) (pv 1)) rfl) (pss_one (ps_ret (pv 2))))) pss_nil) (pss_cons (ps_dput (hu_of hr) (pv 0) pe_str (pe_op k_add (pe_dget (hu_of hr) (pv 0) pe_str (fun _ _ => rfl)) pe_int) rfl) (pss_cons (ps_set (i := 3) scLawTake.nd rfl (Or.inl rfl) (pe_op k_mod (pe_callTy k_int1 (by rfl) T.int (by decide +kernel) (pa_cons (pe_op k_add (pe_op k_mul (pe_dget (hu_of hr) (pv 0) pe_str (fun _ _ => rfl)) pe_int) (pe_op k_mul (pe_dget (hu_of hr) (pv 0) pe_str (fun _ _ => rfl)) pe_int)) pa_nil)) pe_int)) (pss_cons (ps_set (i := 3) scLawTake.nd rfl (Or.inl rfl) (pe_op k_mod (pe_callTy k_int1 (by rfl) T.int (by decide +kernel) (pa_cons (pe_op k_add (pe_op k_add (pe_op k_mul (pv 3) (pv 3)) (pe_op k_mul (pe_dget (hu_of hr) (pv 0) pe_str (fun _ _ => rfl)) pe_int)) pe_int) pa_nil)) pe_int)) (pss_one (ps_ret (pe_op k_mod (pe_callTy k_int1 (by rfl) T.int (by decide +kernel) (pa_cons (pv 3) pa_nil)) (pv 1))))))))), ?_⟩
  wtm_at "kk"
  refine g_st (σ' := [some (.ref d), some (.int (m : Nat)), none, none]) rfl ?_
  have hin : ∀ z : Int, 0 ≤ z % (m : Int) ∧ ((z % (m : Int)).toNat < m) ∧ z % (m : Int) = ((z % (m : Int)).toNat : Int) := fun z => by
    have h1 := Int.emod_nonneg z (by omega : (m : Int) ≠ 0)
    have h2 := Int.emod_lt_of_pos z (by omega : (0 : Int) < (m : Int))
    exact ⟨h1, by omega, (Int.toNat_of_nonneg h1).symm⟩
  with_reducible refine g_seqM (fun σ1 H1 => σ1 = [some (.ref d), some (.int (m : Nat)), none, none] ∧ Frm [d] H H1 ∧ Tape H1 d c) (fun σ1 H1 hM => ?_) (fun N hN => ?_)
  · obtain ⟨rfl, f1, hT1⟩ := hM
    obtain ⟨kvs, a, l, sd, sl, cs, hd, hv, hc, hcs, hcl⟩ := hT1
    obtain ⟨e0, e1, e2, e3, e4, e5, p0, p1⟩ := id hv
    wtm_at "go"
    refine g_ite (fun k => ?_) fun k => ?_
    · wtm_at "go"
      refine g_mod (by omega) ?_
      wtm_at "go"
      refine g_div ⟨by omega, by omega⟩ ?_
      wtm_at "go"
      refine g_dputS hd (by omega) ?_
      have f2 : Frm [d] H1 (upd H1 d (.dK (putK kvs (Sum.inr ("left" : Str)) (.int (l / (m : Int)))))) := Frm.mut List.mem_cons_self hd nt_dK
      have hne : c ≠ d := by rintro rfl; rw [hd] at hc; cases hc
      wtm_at "go"
      obtain ⟨z1, z2, z3⟩ := hin l
      rw [z3]
      exact q _ _ z2 (f1.trans f2) ⟨_, a, _, sd, sl, cs, upd_same, hv.putLeft (Int.ediv_nonneg p1 (by omega)), by rw [upd_ne hne]; exact hc, hcs, hcl⟩
    · wtm_at "go"
      refine g_dputS hd (by omega) ?_
      have f2 : Frm [d] H1 (upd H1 d (.dK (putK kvs (Sum.inr ("salt" : Str)) (.int (sl + 1))))) := Frm.mut List.mem_cons_self hd nt_dK
      have hne : c ≠ d := by rintro rfl; rw [hd] at hc; cases hc
      have hv2 := hv.putSalt (sl + 1)
      have e4' := hv2.seed1
      have e5' := hv2.salt1
      have hd2 : upd H1 d (.dK (putK kvs (Sum.inr ("salt" : Str)) (.int (sl + 1)))) d = _ := upd_same
      generalize upd H1 d (.dK (putK kvs (Sum.inr ("salt" : Str)) (.int (sl + 1)))) = H2 at f2 hd2 ⊢
      clear e4 e5
      wtm_at "go"
      refine g_mul (.inr (by decide)) ?_
      wtm_at "go"
      refine g_mul (.inr (by decide)) ?_
      wtm_at "go"
      refine g_mod (by decide) ?_
      generalize (sd * 48271 + (sl + 1) * 69621) = mx
      have b1 := Int.emod_nonneg mx (by decide : (2147483647 : Int) ≠ 0)
      have b2 := Int.emod_lt_of_pos mx (by decide : (0 : Int) < 2147483647)
      generalize mx % 2147483647 = my at b1 b2
      wtm_at "go"
      refine g_mul (.inr ⟨by omega, by omega⟩) ?_
      wtm_at "go"
      refine g_mul (.inr (by decide)) ?_
      wtm_at "go"
      refine g_mod (by decide) ?_
      wtm_at "go"
      refine g_mod (by omega) ?_
      generalize (my * my + (sl + 1) * 40692 + 12345) % 2147483399 = mz
      obtain ⟨z1, z2, z3⟩ := hin mz
      rw [z3]
      exact q _ _ z2 (f1.trans f2) ⟨_, a, l, sd, _, cs, hd2, hv2, f2.keep _ _ (by simp [hne]) hc, hcs, hcl⟩
  · obtain ⟨kvs, a, l, sd, sl, cs, hd, hv, hc, hcs, hcl⟩ := hT
    have hT : Tape H d c := ⟨kvs, a, l, sd, sl, cs, hd, hv, hc, hcs, hcl⟩
    obtain ⟨e0, e1, e2, e3, e4, e5, p0, p1⟩ := id hv
    have hne : c ≠ d := by rintro rfl; rw [hd] at hc; cases hc
    wtm_at "go"
    refine g_ite (fun k => ?_) fun k => ?_
    · wtm_at "go"
      refine g_ite (fun k2 => ?_) fun k2 => ?_
      · have k2' := of_decide_eq_true k2
        obtain ⟨n, rfl⟩ := Int.eq_ofNat_of_zero_le p0
        have hn : n < cs.length := by rw [List.length_map] at k2'; omega
        have hcn : (cs.map V.int)[n]? = some (.int cs[n]) := by rw [List.getElem?_map, List.getElem?_eq_getElem hn]; rfl
        have hpos : 0 ≤ cs[n] := hcs _ (List.getElem_mem hn)
        wtm_at "go"
        refine g_ixL hc (atI_nat hcn) ?_
        wtm_at "go"
        refine g_dputS hd (by omega) ?_
        have hv2 := hv.putLeft hpos
        have hd2 : upd H d (.dK (putK kvs (Sum.inr ("left" : Str)) (.int cs[n]))) d = _ := upd_same
        have f2 : Frm [d] H (upd H d (.dK (putK kvs (Sum.inr ("left" : Str)) (.int cs[n])))) := Frm.mut List.mem_cons_self hd nt_dK
        generalize upd H d (.dK (putK kvs (Sum.inr ("left" : Str)) (.int cs[n]))) = H2 at f2 hd2 ⊢
        have e2' := hv2.at1
        clear e2
        wtm_at "go"
        refine g_dputS hd2 (Nat.lt_of_le_of_lt hv2.len (by decide)) ?_
        have f3 : Frm [d] H2 (upd H2 d (.dK (putK (putK kvs (Sum.inr ("left" : Str)) (.int cs[n])) (Sum.inr ("at" : Str)) (.int ((n : Int) + 1))))) := Frm.mut List.mem_cons_self hd2 nt_dK
        exact hN _ _ ⟨rfl, f2.trans f3, ⟨_, _, _, sd, sl, cs, upd_same, hv2.putAt (by omega), (f2.trans f3).keep _ _ (by simp [hne]) hc, hcs, hcl⟩⟩
      · wtm_at "go"
        exact hN _ _ ⟨rfl, Frm.refl _ _, hT⟩
    · rw [if_neg (by decide)]
      wtm_at "go"
      exact hN _ _ ⟨rfl, Frm.refl _ _, hT⟩
end

section
variable {P : Program} {w : World} {K : PySem.W.Frag} {mg : Str → Option Value} {base : Heap}
def nums : List Int := [0, 1, 2, 3, 7, 4294967295]
abbrev sLawNumber : Stmt := top 49
theorem scLawNumber : FnScope ["_law_tape_here"] ["_law_tape_here"] (defScope sLawNumber) := ⟨rfl, rfl, rfl, by decide +kernel, rfl, by decide +kernel, by decide +kernel⟩
def pNum (tp : V) (H : Hp) (Q : VK) (_ : XK) : Prop := ∃ (d c : Addr), tp = .ref d ∧ Tape H d c ∧ ∀ (n : Int) H2, n ∈ nums → Frm [d] H H2 → Tape H2 d c → Q (.int n) H2
theorem pick {α : Type} {l : List α} {r : Nat} (h : r < l.length) : ∃ x, l[r]? = some x ∧ x ∈ l := ⟨l[r], List.getElem?_eq_getElem h, List.getElem_mem h⟩
theorem ok_num (T : Tx K mg) (A : At K mg "_law_number" sLawNumber ["_law_tape_here"]) (C__law_take : Has P w K mg base CX0 "_law_take" ["_law_tape_here", "_law_many"] 1 (sp2 pTake)) : Has P w K mg base CX0 "_law_number" ["_law_tape_here"] 2 (sp1 pNum) := by
  refine has_mk A scLawNumber (fun vs H Q E h => by obtain ⟨_, rfl, _⟩ := h; rfl) fun f cdv A outer s H vs Q E hr h => ?_
  obtain ⟨tp, rfl, d, c, rfl, hT, q⟩ := h
  refine ⟨_, (pss_one (ps_ret (pe_ix ix_list (pe_lst (pa_cons pe_int (pa_cons pe_int (pa_cons pe_int (pa_cons pe_int (pa_cons pe_int (pa_cons pe_int pa_nil))))))) (pe_h0 C__law_take (hr.mono (by omega)) (pa_cons (pv 0) (pa_cons pe_int pa_nil))) (fun _ _ => rfl)))), ?_⟩
  wtm_at "kk"
  refine g_st (σ' := [some (.ref d)]) rfl ?_
  obtain ⟨kv0, hd0⟩ := hT.dK
  wtm_at "go"
  rename_i l H1 n1 f1 h1
  refine to2 ⟨d, c, 6, rfl, rfl, by decide, by decide, hT.frm f1, fun r H2 hr f2 hT2 => ?_⟩
  have hld : l ≠ d := ((hT.ne n1).1)
  obtain ⟨x, hx, hm⟩ := pick (l := nums) hr
  have h2 : H2 l = some (.lst (nums.map V.int)) := f2.at1 hld h1
  wtm_at "go"
  refine g_ixL h2 (atI_nat (v := .int x) (by rw [List.getElem?_map, hx]; rfl)) ?_
  exact q x H2 hm (f1.any.trans f2) hT2
abbrev sLawValue : Stmt := top 50
theorem scLawValue : FnScope ["_law_tape_here", "_law_depth", "_law_choice", "_law_sign"] ["_law_tape_here", "_law_depth"] (defScope sLawValue) := ⟨rfl, rfl, rfl, by decide +kernel, rfl, by decide +kernel, by decide +kernel⟩
def pVal (n : Nat) (tp dp : V) (H : Hp) (Q : VK) (_ : XK) : Prop := ∃ (d c : Addr) (k : Nat), tp = .ref d ∧ dp = .int (k : Nat) ∧ k < n ∧ Tape H d c ∧ ∀ v H2 x, Frm [d] H H2 → Tape H2 d c → D H2 v (encV x) → goodV x → dpV x ≤ k + 1 → Q v H2
def vars : List Str := ["n", "m", "k"]
def signs7 : List Str := ["+", "-", "*", "<", "==", "<", "-"]
theorem signs7_ok : ∀ x ∈ signs7, x ∈ signs := by
  intro x hx
  simp only [signs7, List.mem_cons, List.not_mem_nil, or_false] at hx
  simp only [signs, List.mem_cons, List.not_mem_nil, or_false]
  rcases hx with rfl | rfl | rfl | rfl | rfl | rfl | rfl <;> simp
theorem vars_ok : ∀ x ∈ vars, strOk x = true := by
  intro x hx
  simp only [vars, List.mem_cons, List.not_mem_nil, or_false] at hx
  rcases hx with rfl | rfl | rfl <;> decide +kernel
theorem nums_ok : ∀ x ∈ nums, 0 ≤ x ∧ x < BIG := by decide +kernel
theorem nums_ok' : ∀ x ∈ nums, 0 ≤ x ∧ x ≤ 4294967295 := by decide
theorem decCh {r : Nat} {k : Nat} : decide (V.int (r : Nat) = V.int ((k : Nat) : Int)) = decide (r = k) := decI
theorem ok_val (T : Tx K mg) (A : At K mg "_law_value" sLawValue ["_law_tape_here", "_law_depth"]) (C__law_take : Has P w K mg base CX0 "_law_take" ["_law_tape_here", "_law_many"] 1 (sp2 pTake)) (C__law_number : Has P w K mg base CX0 "_law_number" ["_law_tape_here"] 2 (sp1 pNum)) :
    ∀ n, Has P w K mg base CX0 "_law_value" ["_law_tape_here", "_law_depth"] (n + 3) (sp2 (pVal n))
  | 0 => has_no A fun vs H Q E h => by obtain ⟨_, _, _, _, _, _, _, _, h, _⟩ := h; exact absurd h (Nat.not_lt_zero _)
  | n + 1 => by
    have C__law_value := ok_val T A C__law_take C__law_number n
    refine has_mk A scLawValue (fun vs H Q E h => by obtain ⟨_, _, rfl, _⟩ := h; rfl) fun f cdv A outer s H vs Q E hr h => ?_
    obtain ⟨tp, dp, rfl, d, c, k, rfl, rfl, hk, hT, q⟩ := h
    refine ⟨_, (pss_cons (ps_set (i := 2) scLawValue.nd rfl (Or.inl rfl) (pe_ifExp (pt_cmpR k_gt (pv 1) pe_int (nomark _)) (pe_h0 C__law_take (hr.mono (by omega)) (pa_cons (pv 0) (pa_cons pe_int pa_nil))) (pe_h0 C__law_take (hr.mono (by omega)) (pa_cons (pv 0) (pa_cons pe_int pa_nil))))) (pss_cons (ps_if (pt_cmpR op_eq (pv 2) pe_int (nomark _)) (pss_one (ps_ret (pe_tup (pa_cons pe_str (pa_cons (pe_h0 C__law_number (hr.mono (by omega)) (pa_cons (pv 0) pa_nil)) pa_nil))))) pss_nil) (pss_cons (ps_if (pt_cmpR k_lt (pv 2) pe_int (nomark _)) (pss_one (ps_ret (pe_tup (pa_cons pe_str (pa_cons (pe_ix ix_list (pe_lst (pa_cons pe_str (pa_cons pe_str (pa_cons pe_str pa_nil)))) (pe_h0 C__law_take (hr.mono (by omega)) (pa_cons (pv 0) (pa_cons pe_int pa_nil))) (fun _ _ => rfl)) pa_nil))))) pss_nil) (pss_cons (ps_set (i := 3) scLawValue.nd rfl (Or.inl rfl) (pe_ix ix_list (pe_lst (pa_cons pe_str (pa_cons pe_str (pa_cons pe_str (pa_cons pe_str (pa_cons pe_str (pa_cons pe_str (pa_cons pe_str pa_nil)))))))) (pe_h0 C__law_take (hr.mono (by omega)) (pa_cons (pv 0) (pa_cons pe_int pa_nil))) (fun _ _ => rfl))) (pss_one (ps_ret (pe_tup (pa_cons (pv 3) (pa_cons (pe_h0 C__law_value (hr.mono (by omega)) (pa_cons (pv 0) (pa_cons (pe_op k_sub (pv 1) pe_int) pa_nil))) (pa_cons (pe_h0 C__law_value (hr.mono (by omega)) (pa_cons (pv 0) (pa_cons (pe_op k_sub (pv 1) pe_int) pa_nil))) pa_nil)))))))))), ?_⟩
    wtm_at "kk"
    refine g_st (σ' := [some (.ref d), some (.int (k : Nat)), none, none]) rfl ?_
    with_reducible refine g_seqM (fun σ1 H1 => ∃ r : Nat, σ1 = [some (.ref d), some (.int (k : Nat)), some (.int (r : Nat)), none] ∧ Frm [d] H H1 ∧ Tape H1 d c ∧ (k = 0 → r < 3)) (fun σ1 H1 hM => ?_) (fun N hN => ?_)
    rotate_left
    · wtm_at "go"
      refine g_ite (fun z => ?_) fun z => ?_
      · wtm_at "go"
        refine to2 ⟨d, c, 8, rfl, rfl, by decide, by decide, hT, fun r H2 hr f2 hT2 => ?_⟩
        wtm_at "go"
        exact hN _ _ ⟨r, rfl, f2, hT2, fun e => by have := of_decide_eq_true z; omega⟩
      · wtm_at "go"
        refine to2 ⟨d, c, 3, rfl, rfl, by decide, by decide, hT, fun r H2 hr f2 hT2 => ?_⟩
        wtm_at "go"
        exact hN _ _ ⟨r, rfl, f2, hT2, fun e => hr⟩
    obtain ⟨r, rfl, f1, hT1, hr3⟩ := hM
    wtm_at "go"
    rw [show decide (V.int (r : Nat) = V.int 0) = decide (r = 0) from decI (b := 0)]
    refine g_ite (fun z => ?_) fun z => ?_
    · wtm_at "go"
      refine to1 ⟨d, c, rfl, hT1, fun x H2 hx f2 hT2 => ?_⟩
      wtm_at "go"
      rename_i p H3 n3 f3 h3
      refine q _ H3 (.num x) ((f1.trans f2).trans f3.any) (hT2.frm f3) (.tup h3 (.cons (.str _) (.cons (.int _) .nil))) (nums_ok x hx) ?_
      simp only [dpV]; omega
    · wtm_at "go"
      refine g_ite (fun z2 => ?_) fun z2 => ?_
      · wtm_at "go"
        rename_i l H2 n2 f2 h2
        refine to2 ⟨d, c, 3, rfl, rfl, by decide, by decide, hT1.frm f2, fun r2 H3 hr2 f3 hT3 => ?_⟩
        have hld : l ≠ d := ((hT1.ne n2).1)
        obtain ⟨x, hx, hm⟩ := pick (l := vars) hr2
        have h3 : H3 l = some (.lst (vars.map V.str)) := f3.at1 hld h2
        wtm_at "go"
        refine g_ixL h3 (atI_nat (v := .str x) (by rw [List.getElem?_map, hx]; rfl)) ?_
        wtm_at "go"
        rename_i p H4 n4 f4 h4
        refine q _ H4 (.nam x) (((f1.trans f2.any).trans f3).trans f4.any) (hT3.frm f4) (.tup h4 (.cons (.str _) (.cons (.str _) .nil))) (vars_ok x hm) ?_
        simp only [dpV]; omega
      · have hk0 : k ≠ 0 := fun e => by
          have := of_decide_eq_false z2
          have := hr3 e
          omega
        obtain ⟨k', rfl⟩ : ∃ k', k = k' + 1 := ⟨k - 1, by omega⟩
        wtm_at "go"
        rename_i l H2 n2 f2 h2
        refine to2 ⟨d, c, 7, rfl, rfl, by decide, by decide, hT1.frm f2, fun r2 H3 hr2 f3 hT3 => ?_⟩
        have hld : l ≠ d := ((hT1.ne n2).1)
        obtain ⟨x, hx, hm⟩ := pick (l := signs7) hr2
        have h3 : H3 l = some (.lst (signs7.map V.str)) := f3.at1 hld h2
        wtm_at "go"
        refine g_ixL h3 (atI_nat (v := .str x) (by rw [List.getElem?_map, hx]; rfl)) ?_
        wtm_at "go"
        rw [show ((k' + 1 : Nat) : Int) - 1 = (k' : Int) from by omega]
        refine to2 ⟨d, c, k', rfl, rfl, by omega, hT3, fun va H4 xa f4 hT4 da ga za => ?_⟩
        wtm_at "go"
        rw [show ((k' + 1 : Nat) : Int) - 1 = (k' : Int) from by omega]
        refine to2 ⟨d, c, k', rfl, rfl, by omega, hT4, fun vb H5 xb f5 hT5 db gb zb => ?_⟩
        wtm_at "go"
        rename_i p H6 n6 f6 h6
        refine q _ H6 (.op x xa xb) (((((f1.trans f2.any).trans f3).trans f4).trans f5).trans f6.any) (hT5.frm f6) (.tup h6 (.cons (.str _) (.cons ((da.frm f5).frm f6) (.cons (db.frm f6) .nil)))) ⟨signs7_ok x hm, ga, gb⟩ ?_
        simp only [dpV]; omega
abbrev sLawTwo : Stmt := top 51
theorem scLawTwo : FnScope ["_law_tape_here", "_law_ends_here", "_law_one", "_law_other"] ["_law_tape_here", "_law_ends_here"] (defScope sLawTwo) := ⟨rfl, rfl, rfl, by decide +kernel, rfl, by decide +kernel, by decide +kernel⟩
def pTwo (tp en : V) (H : Hp) (Q : VK) (_ : XK) : Prop := ∃ (d c e : Addr) (Es : List Str), tp = .ref d ∧ en = .ref e ∧ H e = some (.tup (Es.map V.str)) ∧ 2 ≤ Es.length ∧ Es.length ≤ 64 ∧ Tape H d c ∧ ∀ p H2 a b, Frm [d] H H2 → Tape H2 d c → a ∈ Es → b ∈ Es → H2 p = some (.tup [.str a, .str b]) → Q (.ref p) H2
theorem ok_two (T : Tx K mg) (A : At K mg "_law_two" sLawTwo ["_law_tape_here", "_law_ends_here"]) (C__law_take : Has P w K mg base CX0 "_law_take" ["_law_tape_here", "_law_many"] 1 (sp2 pTake)) : Has P w K mg base CX0 "_law_two" ["_law_tape_here", "_law_ends_here"] 2 (sp2 pTwo) := by
  refine has_mk A scLawTwo (fun vs H Q E h => by obtain ⟨_, _, rfl, _⟩ := h; rfl) fun f cdv A outer s H vs Q E hr h => ?_
  obtain ⟨tp, en, rfl, d, c, e, Es, rfl, rfl, he, hl2, hl64, hT, q⟩ := h
  refine ⟨_, (pss_cons (ps_set (i := 2) scLawTwo.nd rfl (Or.inl rfl) (pe_h0 C__law_take (hr.mono (by omega)) (pa_cons (pv 0) (pa_cons (pe_callB k_len (by rfl) T.len PySem.boot_len (pa_cons (pv 1) pa_nil)) pa_nil)))) (pss_cons (ps_set (i := 3) scLawTwo.nd rfl (Or.inl rfl) (pe_h0 C__law_take (hr.mono (by omega)) (pa_cons (pv 0) (pa_cons (pe_op k_sub (pe_callB k_len (by rfl) T.len PySem.boot_len (pa_cons (pv 1) pa_nil)) pe_int) pa_nil)))) (pss_one (ps_ret (pe_tup (pa_cons (pe_ix ix_tup (pv 1) (pv 2) (fun _ _ => rfl)) (pa_cons (pe_ix ix_tup (pv 1) (pe_ifExp (pt_cmpR k_lt (pv 3) (pv 2) (nomark _)) (pv 3) (pe_op k_add (pv 3) pe_int)) (fun _ _ => rfl)) pa_nil))))))), ?_⟩
  wtm_at "kk"
  refine g_st (σ' := [some (.ref d), some (.ref e), none, none]) rfl ?_
  wtm_at "go"
  refine to2 ⟨d, c, Es.length, rfl, by rw [List.length_map], by omega, by omega, hT, fun r H1 hr f1 hT1 => ?_⟩
  have he1 := f1.tupS he
  wtm_at "go"
  refine to2 ⟨d, c, Es.length - 1, rfl, by rw [List.length_map]; congr 1; omega, by omega, by omega, hT1, fun r2 H2 hr2 f2 hT2 => ?_⟩
  have he2 := f2.tupS he1
  obtain ⟨a, ha, ma⟩ := pick (l := Es) hr
  wtm_at "go"
  refine g_ixT he2 (atI_nat (v := .str a) (by rw [List.getElem?_map, ha]; rfl)) ?_
  wtm_at "go"
  refine g_ite (fun z => ?_) fun z => ?_
  · obtain ⟨b, hb, mb⟩ := pick (l := Es) (r := r2) (by omega)
    wtm_at "go"
    refine g_ixT he2 (atI_nat (v := .str b) (by rw [List.getElem?_map, hb]; rfl)) ?_
    wtm_at "go"
    rename_i p H3 n3 f3 h3
    exact q p H3 a b ((f1.trans f2).trans f3.any) (hT2.frm f3) ma mb h3
  · obtain ⟨b, hb, mb⟩ := pick (l := Es) (r := r2 + 1) (by omega)
    wtm_at "go"
    refine g_ixT he2 (atI_nat (j := r2 + 1) (v := .str b) (by rw [List.getElem?_map, hb]; rfl)) ?_
    wtm_at "go"
    rename_i p H3 n3 f3 h3
    exact q p H3 a b ((f1.trans f2).trans f3.any) (hT2.frm f3) ma mb h3
end

/-- what the drawing of a block knows -/
structure Gx (H : Hp) (d c e lp : Addr) (Es : List Str) (PS : List Part) : Prop where
  tape : Tape H d c
  ends : H e = some (.tup (Es.map V.str))
  parts : ∃ vs, H lp = some (.lst vs) ∧ DL H vs (PS.map encP)
  ne : lp ≠ d
  l1 : 1 ≤ Es.length
  l64 : Es.length ≤ 64
  nd : Es.Nodup
  ok : ∀ x ∈ Es, strOk x = true
  pok : ∀ q ∈ PS, lyP q ∧ q.2.1.length ≤ 64
  pl : PS.length ≤ 64
theorem Gx.frm {H H' : Hp} {d c e lp : Addr} {Es : List Str} {PS : List Part} (h : Gx H d c e lp Es PS) (f : Frm [d] H H') (t : Tape H' d c) : Gx H' d c e lp Es PS := by
  obtain ⟨vs, h3, h4⟩ := h.parts
  exact { h with tape := t, ends := f.tupS h.ends, parts := ⟨vs, f.at1 h.ne h3, h4.frm f⟩ }
theorem Gx.frm0 {H H' : Hp} {d c e lp : Addr} {Es : List Str} {PS : List Part} (h : Gx H d c e lp Es PS) (f : Frm [] H H') : Gx H' d c e lp Es PS := h.frm f.any (h.tape.frm f)
section
variable {P : Program} {w : World} {K : PySem.W.Frag} {mg : Str → Option Value} {base : Heap}
abbrev sLawBlock : Stmt := top 53
theorem scLawBlock : FnScope ["_law_tape_here", "_law_ends_here", "_law_parts", "_law_depth", "_law_most", "_law_k"] ["_law_tape_here", "_law_ends_here", "_law_parts", "_law_depth", "_law_most"] (defScope sLawBlock) := ⟨rfl, rfl, rfl, by decide +kernel, rfl, by decide +kernel, by decide +kernel⟩
abbrev sLawStatement : Stmt := top 52
theorem scLawStatement : FnScope ["_law_tape_here", "_law_ends_here", "_law_parts", "_law_depth", "_law_choice", "_law_variable", "_law_end", "_law_sender", "_law_receiver", "_law_label", "_law_part", "_law_fitting", "_law_chosen", "_law_k", "_law_rest", "_law_yes", "_law_name"] ["_law_tape_here", "_law_ends_here", "_law_parts", "_law_depth"] (defScope sLawStatement) := ⟨rfl, rfl, rfl, by decide +kernel, rfl, by decide +kernel, by decide +kernel⟩
def pStm (n : Nat) (tp en pa dp : V) (H : Hp) (Q : VK) (_ : XK) : Prop := ∃ (d c e lp : Addr) (Es : List Str) (PS : List Part) (k : Nat), tp = .ref d ∧ en = .ref e ∧ pa = .ref lp ∧ dp = .int (k : Nat) ∧ k < n ∧ Gx H d c e lp Es PS ∧
  ∀ v H2 s, Frm [d] H H2 → Tape H2 d c → D H2 v (encS s) → gB Es PS [s] → s.dp ≤ k → s.sz ≤ mS k → Q v H2
def pBlk (n : Nat) (tp en pa dp mo : V) (H : Hp) (Q : VK) (_ : XK) : Prop := ∃ (d c e lp : Addr) (Es : List Str) (PS : List Part) (k m : Nat), tp = .ref d ∧ en = .ref e ∧ pa = .ref lp ∧ dp = .int (k : Nat) ∧ mo = .int (m : Nat) ∧ m ≤ 100 ∧ k < n ∧ Gx H d c e lp Es PS ∧
  ∀ v H2 b, Frm [d] H H2 → Tape H2 d c → D H2 v (encBT b) → gB Es PS b → dpB b ≤ k → szB b ≤ m * mS k → Q v H2
theorem ok_blk {n : Nat} (T : Tx K mg) (A : At K mg "_law_block" sLawBlock ["_law_tape_here", "_law_ends_here", "_law_parts", "_law_depth", "_law_most"]) (C__law_take : Has P w K mg base CX0 "_law_take" ["_law_tape_here", "_law_many"] 1 (sp2 pTake))
    (C__law_statement : Has P w K mg base CX0 "_law_statement" ["_law_tape_here", "_law_ends_here", "_law_parts", "_law_depth"] (2 * n + 7) (sp4 (pStm (n + 1)))) :
    Has P w K mg base CX0 "_law_block" ["_law_tape_here", "_law_ends_here", "_law_parts", "_law_depth", "_law_most"] (2 * n + 8) (sp5 (pBlk (n + 1))) := by
  refine has_mk A scLawBlock (fun vs H Q E h => by obtain ⟨_, _, _, _, _, rfl, _⟩ := h; rfl) fun f cdv A outer s H vs Q E hr h => ?_
  obtain ⟨tp, en, pa, dp, mo, rfl, d, c, e, lp, Es, PS, k, m, rfl, rfl, rfl, rfl, rfl, hm, hk, G, q⟩ := h
  refine ⟨_, (pss_one (ps_ret (pe_callTy k_tup (by rfl) T.tuple (by decide +kernel) (pa_cons (pe_lc (own := [("_law_k", 5)]) rfl scLawBlock.nd (pi_range1 (by rfl) T.range (pa_cons (pe_h0 C__law_take (hr.mono (by omega)) (pa_cons (pv 0) (pa_cons (pe_op k_add (pv 4) pe_int) pa_nil))) pa_nil)) (blkOk_by (own := [("_law_k", 5)]) (N := ["_law_tape_here", "_law_ends_here", "_law_parts", "_law_depth", "_law_most", "_law_k"]) (sc := defScope sLawBlock) (by decide +kernel)) (fun _ _ _ _ _ => (pg_name (i := 5) scLawBlock.nd rfl (Or.inl rfl))) (fun _ _ _ _ _ => pts_nil) (fun _ _ _ _ _ => (pe_h0 C__law_statement (hr.mono (by omega)) (pa_cons (pv 0) (pa_cons (pv 1) (pa_cons (pv 2) (pa_cons (pv 3) pa_nil))))))) pa_nil)))), ?_⟩
  wtm_at "kk"
  refine g_st (σ' := [some (.ref d), some (.ref e), some (.ref lp), some (.int (k : Nat)), some (.int (m : Nat)), none]) rfl ?_
  wtm_at "go"
  refine to2 ⟨d, c, m + 1, rfl, rfl, by omega, by omega, G.tape, fun r H1 hr f1 hT1 => ?_⟩
  have G1 := G.frm f1 hT1
  wtm_at "go"
  refine g_kR (by omega) ?_
  refine KLc.mk (walk_range (lo := 0) (n := r)) fun Dr hD => ⟨fun i H' => ∃ b : List Stm, b.length = i ∧ LI [d] H1 Dr (encB b) H' ∧ Gx H' d c e lp Es PS ∧ gB Es PS b ∧ dpB b ≤ k ∧ szB b ≤ i * mS k,
    ⟨[], rfl, .new (Frm.new hD) upd_same, G1.frm0 (Frm.new hD), (fun t ht => nomatch ht), Nat.zero_le _, Nat.zero_le _⟩, fun _ _ _ _ => trivial, fun i x H2 H3 hi h y => ?_, fun H' h => ?_⟩
  · obtain ⟨rfl, rfl⟩ := y
    obtain ⟨b, hb, hL, hG, hgb, hdb, hzb⟩ := h
    have hDr : Dr ∉ [d] := by
      have := (hT1.ne hD).1
      simpa using this
    wtm_at "wi"
    wtm_at "go"
    refine to4 ⟨d, c, e, lp, Es, PS, k, rfl, rfl, rfl, rfl, hk, hG, fun v H4 sm f4 hT4 dv hgs hds hzs => ?_⟩
    have hL4 := hL.frmS hDr f4
    obtain ⟨us, hu, du⟩ := hL4.at_
    have hul : us.length = i := by rw [du.encLen, hb]
    refine g_acc hu (by omega) ⟨b ++ [sm], by rw [List.length_append, hb]; rfl, ?_, ?_, hgb.snoc hgs, ?_, ?_⟩
    · rw [encB_app]; exact hL4.app hD hu dv
    · have f5 : Frm [Dr] H4 (upd H4 Dr (.lst (us ++ [v]))) := Frm.mut List.mem_cons_self hu nt_lst
      have nT := hT1.ne hD
      have G4 := hG.frm f4 hT4
      obtain ⟨ps, g3, g4⟩ := G4.parts
      obtain ⟨ps1, p3, _⟩ := G1.parts
      have nl : lp ≠ Dr := fun z => by rw [z, hD] at p3; cases p3
      exact { G4 with tape := hT4.upd nT.1 nT.2, ends := f5.tupS G4.ends, parts := ⟨ps, f5.at1 nl g3, g4.frm f5⟩ }
    · rw [dpB_append]; simp only [dpB]; omega
    · rw [szB_snoc, Nat.succ_mul]; omega
  · obtain ⟨b, hb, hL, hG, hgb, hdb, hzb⟩ := h
    obtain ⟨us, hu, du⟩ := hL.at_
    wtm_at "go"
    rename_i p H4 f4 h4
    have h6 : r * mS k ≤ m * mS k := Nat.mul_le_mul_right _ (by omega)
    exact q _ H4 b ((f1.trans hL.fr).trans f4.any) (hG.tape.frm f4) (.tup h4 (du.frm f4)) hgb hdb (by omega)
end

theorem nodup_sub {α : Type} [DecidableEq α] : ∀ (l m : List α), l.Nodup → (∀ x ∈ l, x ∈ m) → l.length ≤ m.length
  | [], _, _, _ => Nat.zero_le _
  | a :: r, m, nd, h => by
    have ha := h a List.mem_cons_self
    rw [List.nodup_cons] at nd
    have ih := nodup_sub r (m.erase a) nd.2 fun x hx => (List.mem_erase_of_ne (fun e => nd.1 (by rw [← e]; exact hx))).mpr (h x (List.mem_cons_of_mem _ hx))
    rw [List.length_erase_of_mem ha] at ih
    have := List.length_pos_of_mem ha
    simp only [List.length_cons]
    omega
theorem rest_pos {Es cs : List Str} (nd : Es.Nodup) (h : cs.length < Es.length) : 0 < (Es.filter fun n => !decide (n ∈ cs)).length := by
  cases e : (Es.filter fun n => !decide (n ∈ cs)).length with
  | succ n => omega
  | zero =>
    have e0 := List.length_eq_zero_iff.mp e
    have := nodup_sub Es cs nd fun x hx => by
      cases c : decide (x ∈ cs) with
      | true => exact of_decide_eq_true c
      | false =>
        have : x ∈ Es.filter fun n => !decide (n ∈ cs) := List.mem_filter.mpr ⟨hx, by rw [c]; rfl⟩
        rw [e0] at this; cases this
    omega
def labels : List Str := ["go", "no", "ask"]
theorem labels_ok : ∀ x ∈ labels, strOk x = true := by
  intro x hx
  simp only [labels, List.mem_cons, List.not_mem_nil, or_false] at hx
  rcases hx with rfl | rfl | rfl <;> decide +kernel
section
variable {P : Program} {w : World} {K : PySem.W.Frag} {mg : Str → Option Value} {base : Heap}
theorem ok_stm {n : Nat} (T : Tx K mg) (A : At K mg "_law_statement" sLawStatement ["_law_tape_here", "_law_ends_here", "_law_parts", "_law_depth"]) (C__law_take : Has P w K mg base CX0 "_law_take" ["_law_tape_here", "_law_many"] 1 (sp2 pTake))
    (C__law_two : Has P w K mg base CX0 "_law_two" ["_law_tape_here", "_law_ends_here"] 2 (sp2 pTwo)) (C__law_value : Has P w K mg base CX0 "_law_value" ["_law_tape_here", "_law_depth"] 6 (sp2 (pVal 3)))
    (C__law_block : Has P w K mg base CX0 "_law_block" ["_law_tape_here", "_law_ends_here", "_law_parts", "_law_depth", "_law_most"] (2 * n + 6) (sp5 (pBlk n))) :
    Has P w K mg base CX0 "_law_statement" ["_law_tape_here", "_law_ends_here", "_law_parts", "_law_depth"] (2 * n + 7) (sp4 (pStm (n + 1))) := by
  refine has_mk A scLawStatement (fun vs H Q E h => by obtain ⟨_, _, _, _, rfl, _⟩ := h; rfl) fun f cdv A outer s H vs Q E hr h => ?_
  obtain ⟨tp, en, pa, dp, rfl, d, c, e, lp, Es, PS, k, rfl, rfl, rfl, rfl, hk, G, q⟩ := h
  refine ⟨_, (pss_cons (ps_set (i := 4) scLawStatement.nd rfl (Or.inl rfl) (pe_ifExp (pt_cmpR k_gt (pv 3) pe_int (nomark _)) (pe_h0 C__law_take (hr.mono (by omega)) (pa_cons (pv 0) (pa_cons pe_int pa_nil))) (pe_h0 C__law_take (hr.mono (by omega)) (pa_cons (pv 0) (pa_cons pe_int pa_nil))))) (pss_cons (ps_set (i := 5) scLawStatement.nd rfl (Or.inl rfl) (pe_ix ix_list (pe_lst (pa_cons pe_str (pa_cons pe_str (pa_cons pe_str pa_nil)))) (pe_h0 C__law_take (hr.mono (by omega)) (pa_cons (pv 0) (pa_cons pe_int pa_nil))) (fun _ _ => rfl))) (pss_cons (ps_set (i := 6) scLawStatement.nd rfl (Or.inl rfl) (pe_ix ix_tup (pv 1) (pe_h0 C__law_take (hr.mono (by omega)) (pa_cons (pv 0) (pa_cons (pe_callB k_len (by rfl) T.len PySem.boot_len (pa_cons (pv 1) pa_nil)) pa_nil))) (fun _ _ => rfl))) (pss_cons (ps_if (PW.pt (pw_and (pt_cmpR k_lt (pv 4) pe_int (nomark _)) (pw_and1 (pt_cmpR k_gt (pe_callB k_len (by rfl) T.len PySem.boot_len (pa_cons (pv 1) pa_nil)) pe_int (nomark _))))) (pss_cons (ps_asg (pe_h0 C__law_two (hr.mono (by omega)) (pa_cons (pv 0) (pa_cons (pv 1) pa_nil))) (pg_tup rfl (pgs_cons (pg_name (i := 7) scLawStatement.nd rfl (Or.inl rfl)) (pgs_cons (pg_name (i := 8) scLawStatement.nd rfl (Or.inl rfl)) pgs_nil)))) (pss_cons (ps_set (i := 9) scLawStatement.nd rfl (Or.inl rfl) (pe_ix ix_list (pe_lst (pa_cons pe_str (pa_cons pe_str (pa_cons pe_str pa_nil)))) (pe_h0 C__law_take (hr.mono (by omega)) (pa_cons (pv 0) (pa_cons pe_int pa_nil))) (fun _ _ => rfl))) (pss_one (ps_ret (pe_tup (pa_cons pe_str (pa_cons (pv 7) (pa_cons (pv 8) (pa_cons (pv 9) (pa_cons (pe_h0 C__law_value (hr.mono (by omega)) (pa_cons (pv 0) (pa_cons pe_int pa_nil))) (pa_cons (pv 5) pa_nil))))))))))) pss_nil) (pss_cons (ps_if (PW.pt (pw_or (pt_cmpR op_eq (pv 4) pe_int (nomark _)) (pw_or1 (pt_cmpR k_lt (pv 4) pe_int (nomark _))))) (pss_one (ps_ret (pe_tup (pa_cons pe_str (pa_cons (pv 6) (pa_cons (pv 5) (pa_cons (pe_h0 C__law_value (hr.mono (by omega)) (pa_cons (pv 0) (pa_cons pe_int pa_nil))) pa_nil))))))) pss_nil) (pss_cons (ps_if (pt_cmpR op_eq (pv 4) pe_int (nomark _)) (pss_one (ps_ret (pe_tup (pa_cons pe_str (pa_cons (pv 6) (pa_cons (pv 5) pa_nil)))))) pss_nil) (pss_cons (ps_if (pt_cmpR op_eq (pv 4) pe_int (nomark _)) (pss_cons (ps_setLc (i := 11) (own := [("_law_part", 10)]) rfl scLawStatement.nd rfl rfl (sw_true rfl rfl rfl (by decide +kernel)) (pi_list (pv 2)) (blkOk_by (own := [("_law_part", 10)]) (N := ["_law_tape_here", "_law_ends_here", "_law_parts", "_law_depth", "_law_choice", "_law_variable", "_law_end", "_law_sender", "_law_receiver", "_law_label", "_law_part", "_law_fitting", "_law_chosen", "_law_k", "_law_rest", "_law_yes", "_law_name"]) (sc := defScope sLawStatement) (by decide +kernel)) (fun _ _ _ _ _ => (pg_name (i := 10) scLawStatement.nd rfl (Or.inl rfl))) (fun _ _ _ _ _ => (pts_one (pt_cmpR k_le (pe_callB (b_len K) (by rfl) T.len PySem.boot_len (pa_cons (pe_ix (b_ixT K) (pv 10) pe_int (fun _ _ => rfl)) pa_nil)) (pe_callB (b_len K) (by rfl) T.len PySem.boot_len (pa_cons (pv 1) pa_nil)) (nomark _)))) (fun _ _ _ _ _ => (pv 10))) (pss_cons (ps_if (pt_cmpR (op_eqD hr.units) (pv 11) (pe_lst pa_nil) (nomark _)) (pss_one (ps_ret (pe_tup (pa_cons pe_str (pa_cons (pv 6) (pa_cons (pv 5) pa_nil)))))) pss_nil) (pss_cons (ps_set (i := 10) scLawStatement.nd rfl (Or.inl rfl) (pe_ix ix_list (pv 11) (pe_h0 C__law_take (hr.mono (by omega)) (pa_cons (pv 0) (pa_cons (pe_callB k_len (by rfl) T.len PySem.boot_len (pa_cons (pv 11) pa_nil)) pa_nil))) (fun _ _ => rfl))) (pss_cons (ps_set (i := 12) scLawStatement.nd rfl (Or.inr rfl) (pe_lst pa_nil)) (pss_cons (ps_for PassesOwn.never rfl (pi_range1 (by rfl) T.range (pa_cons (pe_callB k_len (by rfl) T.len PySem.boot_len (pa_cons (pe_ix ix_tup (pv 10) pe_int (fun _ _ => rfl)) pa_nil)) pa_nil)) (pg_name (i := 13) scLawStatement.nd rfl (Or.inl rfl)) (pss_cons (ps_setLc (i := 14) (own := [("_law_name", 16)]) rfl scLawStatement.nd rfl rfl (sw_true rfl rfl rfl (by decide +kernel)) (pi_tup (pv 1)) (blkOk_by (own := [("_law_name", 16)]) (N := ["_law_tape_here", "_law_ends_here", "_law_parts", "_law_depth", "_law_choice", "_law_variable", "_law_end", "_law_sender", "_law_receiver", "_law_label", "_law_part", "_law_fitting", "_law_chosen", "_law_k", "_law_rest", "_law_yes", "_law_name"]) (sc := defScope sLawStatement) (by decide +kernel)) (fun _ _ _ _ _ => (pg_name (i := 16) scLawStatement.nd rfl (Or.inl rfl))) (fun _ _ _ _ _ => (pts_one (pt_cmpR (b_nin K) (pv 16) (pv 12) (by rfl)))) (fun _ _ _ _ _ => (pv 16))) (pss_one (ps_expr (pe_bm PySem.F.plainAttrs_list PySem.F.slot_list_append PySem.F.type_list_append mt_append (pv 12) (pa_cons (pe_ix ix_list (pv 14) (pe_h0 C__law_take (hr.mono (by omega)) (pa_cons (pv 0) (pa_cons (pe_callB k_len (by rfl) T.len PySem.boot_len (pa_cons (pv 14) pa_nil)) pa_nil))) (fun _ _ => rfl)) pa_nil)))))) (pss_one (ps_ret (pe_tup (pa_cons pe_str (pa_cons (pe_ix ix_tup (pv 10) pe_int (fun _ _ => rfl)) (pa_cons (pe_callTy k_tup (by rfl) T.tuple (by decide +kernel) (pa_cons (pv 12) pa_nil)) pa_nil))))))))))) pss_nil) (pss_cons (ps_if (pt_cmpR k_lt (pv 4) pe_int (nomark _)) (pss_cons (ps_set (i := 15) scLawStatement.nd rfl (Or.inl rfl) (pe_h0 C__law_block (hr.mono (by omega)) (pa_cons (pv 0) (pa_cons (pv 1) (pa_cons (pv 2) (pa_cons (pe_op k_sub (pv 3) pe_int) (pa_cons pe_int pa_nil))))))) (pss_one (ps_ret (pe_tup (pa_cons pe_str (pa_cons (pv 6) (pa_cons (pe_h0 C__law_value (hr.mono (by omega)) (pa_cons (pv 0) (pa_cons pe_int pa_nil))) (pa_cons (pv 15) (pa_cons (pe_h0 C__law_block (hr.mono (by omega)) (pa_cons (pv 0) (pa_cons (pv 1) (pa_cons (pv 2) (pa_cons (pe_op k_sub (pv 3) pe_int) (pa_cons pe_int pa_nil)))))) pa_nil))))))))) pss_nil) (pss_one (ps_ret (pe_tup (pa_cons pe_str (pa_cons (pv 6) (pa_cons (pe_h0 C__law_value (hr.mono (by omega)) (pa_cons (pv 0) (pa_cons pe_int pa_nil))) (pa_cons (pe_h0 C__law_block (hr.mono (by omega)) (pa_cons (pv 0) (pa_cons (pv 1) (pa_cons (pv 2) (pa_cons (pe_op k_sub (pv 3) pe_int) (pa_cons pe_int pa_nil)))))) pa_nil))))))))))))))), ?_⟩
  wtm_at "kk"
  refine g_st (σ' := [some (.ref d), some (.ref e), some (.ref lp), some (.int (k : Nat)), none, none, none, none, none, none, none, none, none, none, none, none, none]) rfl ?_
  with_reducible refine g_seqM (fun σ1 H1 => ∃ r : Nat, σ1 = [some (.ref d), some (.ref e), some (.ref lp), some (.int (k : Nat)), some (.int (r : Nat)), none, none, none, none, none, none, none, none, none, none, none, none] ∧ Frm [d] H H1 ∧ Tape H1 d c ∧ (k = 0 → r < 8)) (fun σ1 H1 hM => ?_) (fun N hN => ?_)
  rotate_left
  · wtm_at "go"
    refine g_ite (fun z => ?_) fun z => ?_
    · wtm_at "go"
      refine to2 ⟨d, c, 12, rfl, rfl, by decide, by decide, G.tape, fun r H2 hr f2 hT2 => ?_⟩
      wtm_at "go"
      exact hN _ _ ⟨r, rfl, f2, hT2, fun e => by have := of_decide_eq_true z; omega⟩
    · wtm_at "go"
      refine to2 ⟨d, c, 8, rfl, rfl, by decide, by decide, G.tape, fun r H2 hr f2 hT2 => ?_⟩
      wtm_at "go"
      exact hN _ _ ⟨r, rfl, f2, hT2, fun e => hr⟩
  obtain ⟨r, rfl, f1, hT1, hr8⟩ := hM
  have G1 := G.frm f1 hT1
  wtm_at "go"
  rename_i l1 H2 n2 f2 h2
  refine to2 ⟨d, c, 3, rfl, rfl, by decide, by decide, hT1.frm f2, fun r2 H3 hr2 f3 hT3 => ?_⟩
  obtain ⟨x, hx, mx⟩ := pick (l := vars) hr2
  have h3 : H3 l1 = some (.lst (vars.map V.str)) := f3.at1 (hT1.ne n2).1 h2
  wtm_at "go"
  refine g_ixL h3 (atI_nat (v := .str x) (by rw [List.getElem?_map, hx]; rfl)) ?_
  have f03 : Frm [d] H H3 := (f1.trans f2.any).trans f3
  have he3 := f03.tupS G.ends
  wtm_at "go"
  refine to2 ⟨d, c, Es.length, rfl, by rw [List.length_map], by have := G.l1; omega, by have := G.l64; omega, hT3, fun r3 H4 hr3 f4 hT4 => ?_⟩
  obtain ⟨a, hxa, ma⟩ := pick (l := Es) hr3
  have he4 := f4.tupS he3
  refine g_ixT he4 (atI_nat (v := .str a) (by rw [List.getElem?_map, hxa]; rfl)) ?_
  have f04 : Frm [d] H H4 := f03.trans f4
  have G4 := G.frm f04 hT4
  clear f03 he3 h3 h2 f1 f2 f3 f4 G1 hT1 hT3 n2
  have sk : (0 : Nat) ≤ k := Nat.zero_le _
  wtm_at "go"
  refine g_ite (fun z => ?_) fun z => ?_
  · wtm_at "go"
    refine g_ite (fun z2 => ?_) fun z2 => ?_
    · have z2' := of_decide_eq_true z2
      rw [List.length_map] at z2'
      wtm_at "go"
      refine to2 ⟨d, c, e, Es, rfl, rfl, he4, by omega, G.l64, hT4, fun pp H5 a1 b1 f5 hT5 m1 m2 h5 => ?_⟩
      wtm_at "go"
      rename_i l2 H6 n6 f6 h6
      refine to2 ⟨d, c, 3, rfl, rfl, by decide, by decide, hT5.frm f6, fun r4 H7 hr4 f7 hT7 => ?_⟩
      obtain ⟨lb, hlb, mlb⟩ := pick (l := labels) hr4
      have h7 : H7 l2 = some (.lst (labels.map V.str)) := f7.at1 (hT5.ne n6).1 h6
      wtm_at "go"
      refine g_ixL h7 (atI_nat (v := .str lb) (by rw [List.getElem?_map, hlb]; rfl)) ?_
      wtm_at "go"
      refine to2 ⟨d, c, 1, rfl, rfl, by decide, hT7, fun v H8 xv f8 hT8 dv gv zv => ?_⟩
      wtm_at "go"
      rename_i p H9 n9 f9 h9
      exact q _ H9 (.msg a1 b1 lb xv x) (((((f04.trans f5).trans f6.any).trans f7).trans f8).trans f9.any) (hT8.frm f9) (.tup h9 (.cons (.str _) (.cons (.str _) (.cons (.str _) (.cons (.str _) (.cons (dv.frm f9) (.cons (.str _) .nil)))))))
        (gB.leaf rfl ⟨m1, m2, labels_ok lb mlb, ⟨gv, by omega⟩, vars_ok x mx⟩) (Nat.zero_le _) (mS_pos _)
    · wtm_at "go"
      refine g_ite (fun z3 => ?_) fun z3 => ?_
      · wtm_at "go"
        refine to2 ⟨d, c, 2, rfl, rfl, by decide, G4.tape, fun v H5 xv f5 hT5 dv gv zv => ?_⟩
        wtm_at "go"
        rename_i p H6 n6 f6 h6
        exact q _ H6 (.set a x xv) ((f04.trans f5).trans f6.any) (hT5.frm f6) (.tup h6 (.cons (.str _) (.cons (.str _) (.cons (.str _) (.cons (dv.frm f6) .nil))))) (gB.leaf rfl ⟨ma, vars_ok x mx, ⟨gv, by omega⟩⟩) (Nat.zero_le _) (mS_pos _)
      · wtm_at "go"
        refine g_ite (fun z4 => ?_) fun z4 => ?_
        · wtm_at "go"
          refine to2 ⟨d, c, 2, rfl, rfl, by decide, G4.tape, fun v H5 xv f5 hT5 dv gv zv => ?_⟩
          wtm_at "go"
          rename_i p H6 n6 f6 h6
          exact q _ H6 (.set a x xv) ((f04.trans f5).trans f6.any) (hT5.frm f6) (.tup h6 (.cons (.str _) (.cons (.str _) (.cons (.str _) (.cons (dv.frm f6) .nil))))) (gB.leaf rfl ⟨ma, vars_ok x mx, ⟨gv, by omega⟩⟩) (Nat.zero_le _) (mS_pos _)
        · rw [z] at z4; cases z4
  · rw [if_neg (by decide)]
    wtm_at "go"
    refine g_ite (fun z3 => ?_) fun z3 => ?_
    · wtm_at "go"
      refine to2 ⟨d, c, 2, rfl, rfl, by decide, G4.tape, fun v H5 xv f5 hT5 dv gv zv => ?_⟩
      wtm_at "go"
      rename_i p H6 n6 f6 h6
      exact q _ H6 (.set a x xv) ((f04.trans f5).trans f6.any) (hT5.frm f6) (.tup h6 (.cons (.str _) (.cons (.str _) (.cons (.str _) (.cons (dv.frm f6) .nil))))) (gB.leaf rfl ⟨ma, vars_ok x mx, ⟨gv, by omega⟩⟩) (Nat.zero_le _) (mS_pos _)
    · wtm_at "go"
      rw [z, if_neg (by decide)]
      wtm_at "go"
      refine g_ite (fun z5 => ?_) fun z5 => ?_
      · wtm_at "go"
        rename_i p Hz nz fz hz
        refine q _ Hz (.ask a x) (f04.trans fz.any) (hT4.frm fz) (.tup hz (.cons (.str _) (.cons (.str _) (.cons (.str _) .nil)))) (gB.leaf rfl ⟨ma, vars_ok x mx⟩) (Nat.zero_le _) (mS_pos _)
      · wtm_at "go"
        refine g_ite (fun z6 => ?_) fun z6 => ?_
        · obtain ⟨ps, hps, dps⟩ := G4.parts
          wtm_at "go"
          refine KLc.mk (walk_list (xs := ps)) fun Dr hD => ⟨fun i H' => LI [] H4 Dr (((PS.take i).filter fun q => decide (q.2.1.length ≤ Es.length)).map encP) H', .new (Frm.new hD) upd_same, fun i H' _ h => SqL.of (h.fr.get0 hps), fun i y H5 H6 hi h yy => ?_, fun H5 hL => ?_⟩
          · obtain ⟨rfl, hy⟩ := yy
            obtain ⟨dd, hdd, dy⟩ := (dps.frm h.fr).getV hy
            rw [List.getElem?_map] at hdd
            cases hqq : PS[i]? with
            | none => rw [hqq] at hdd; cases hdd
            | some qq =>
              rw [hqq] at hdd
              obtain rfl : encP qq = dd := Option.some.inj hdd
              obtain ⟨at3, y0, y1, y2, rfl, ha3, d0, d1, d2⟩ := D.t3 dy
              obtain ⟨a1, ys, rfl, ha1, dys⟩ := d1.tupE
              obtain rfl := dys.strs
              obtain ⟨us, hu, du⟩ := h.at_
              have hfl : us.length ≤ 64 := by
                rw [du.len, List.length_map]
                have := List.length_filter_le (fun q : Part => decide (q.2.1.length ≤ Es.length)) (PS.take i)
                have := G.pl
                rw [List.length_take] at *
                omega
              have he5 := h.fr.get0 he4
              wtm_at "wi"
              wtm_at "go"
              refine g_tst (fun zz => ?_) fun zz => ?_
              · wtm_at "go"
                have zz' := of_decide_eq_true zz
                rw [List.length_map, List.length_map] at zz'
                refine g_acc hu (by omega) ?_
                show LI [] H4 Dr (((PS.take (i + 1)).filter fun q => decide (q.2.1.length ≤ Es.length)).map encP) _
                have ef : ([qq].filter fun q : Part => decide (q.2.1.length ≤ Es.length)) = [qq] := by
                  rw [List.filter_cons, if_pos (decide_eq_true (by omega))]; rfl
                rw [take_snoc hqq, List.filter_append, ef, List.map_append]
                exact h.app hD hu dy
              · have zz' := of_decide_eq_false zz
                rw [List.length_map, List.length_map] at zz'
                show LI [] H4 Dr (((PS.take (i + 1)).filter fun q => decide (q.2.1.length ≤ Es.length)).map encP) _
                have ef : ([qq].filter fun q : Part => decide (q.2.1.length ≤ Es.length)) = [] := by
                  rw [List.filter_cons, if_neg (by rw [decide_eq_true_eq]; omega)]; rfl
                rw [take_snoc hqq, List.filter_append, ef, List.append_nil]
                exact h
          · have hpl : ps.length = PS.length := by rw [dps.len, List.length_map]
            rw [hpl, List.take_length] at hL
            generalize hPF : (PS.filter fun q : Part => decide (q.2.1.length ≤ Es.length)) = PF at hL
            have hPFm : ∀ q ∈ PF, q ∈ PS ∧ q.2.1.length ≤ Es.length := fun q hq => by
              rw [← hPF] at hq
              obtain ⟨h1, h2⟩ := List.mem_filter.mp hq
              exact ⟨h1, of_decide_eq_true h2⟩
            have hPFl : PF.length ≤ 64 := by
              rw [← hPF]
              exact Nat.le_trans (List.length_filter_le _ _) G.pl
            obtain ⟨us, hu, du⟩ := hL.at_
            have f5 := hL.fr
            have G5 := G4.frm0 f5
            wtm_at "go"
            rename_i lE H6 nE fE hE
            obtain ⟨ly1, ly2⟩ := layPs PF fun q hq => (G.pok q (hPFm q hq).1).1
            refine g_eqNil (fE.get0 hu) hE (du.frm fE) (shList ly1 (by omega)) ?_
            have G6 := G5.frm0 fE
            have f06 : Frm [d] H H6 := (f04.trans f5.any).trans fE.any
            refine g_KB ?_
            refine g_ite (fun zz => ?_) fun zz => ?_
            · wtm_at "go"
              rename_i p Hz nz fz hz
              exact q _ Hz (.ask a x) (f06.trans fz.any) (G6.tape.frm fz) (.tup hz (.cons (.str _) (.cons (.str _) (.cons (.str _) .nil)))) (gB.leaf rfl ⟨ma, vars_ok x mx⟩) (Nat.zero_le _) (mS_pos _)
            · have hul : us.length = PF.length := by rw [du.len, List.length_map]
              have hpos : 0 < PF.length := by
                cases PF with
                | nil => cases zz
                | cons => simp
              have hDd : Dr ≠ d := (hT4.ne hD).1
              have hu6 := fE.get0 hu
              wtm_at "go"
              refine to2 ⟨d, c, PF.length, rfl, by rw [hul], hpos, by omega, G6.tape, fun r5 H7 hr5 f7 hT7 => ?_⟩
              have hu7 : H7 Dr = some (.lst us) := f7.at1 hDd hu6
              obtain ⟨qq, hqq, mqq⟩ := pick (l := PF) hr5
              obtain ⟨mq1, mq2⟩ := hPFm qq mqq
              obtain ⟨v, hv, dv⟩ := ((du.frm fE).frm f7).get (i := r5) (d := encP qq) (by rw [List.getElem?_map, hqq]; rfl)
              refine g_ixL hu7 (atI_nat hv) ?_
              have G7 := G6.frm f7 hT7
              have f07 : Frm [d] H H7 := f06.trans f7
              obtain ⟨at3, y0, y1, y2, rfl, ha3, d0, d1, d2⟩ := D.t3 dv
              cases d0
              obtain ⟨a1, ys, rfl, ha1, dys⟩ := d1.tupE
              obtain rfl := dys.strs
              wtm_at "go"
              rename_i lc H8 n8 f8 h8
              rw [List.length_map]
              refine g_kR (by have := G.l64; omega) ?_
              have nT := hT7.ne n8
              have G8 := G7.frm0 f8
              refine KForJ.mk (walk_range (lo := 0) (n := qq.2.1.length)) (fun i σ H' => ∃ x13 x14 cs, σ = [some (.ref d), some (.ref e), some (.ref lp), some (.int (k : Nat)), some (.int (r : Nat)), some (.str x), some (.str a), none, none, none, some (.ref at3), some (.ref Dr), some (.ref lc), x13, x14, none, none] ∧ Frm [d] H7 H' ∧ H' lc = some (.lst (cs.map V.str)) ∧ cs.length = i ∧ (∀ y ∈ cs, y ∈ Es) ∧ Gx H' d c e lp Es PS)
                ⟨none, none, [], rfl, f8.any, h8, rfl, (fun _ h => nomatch h), G8⟩ (fun _ _ _ _ _ => trivial) (fun i y σ H10 H9 hi h yy => ?_) (fun σ H9 h => ?_)
              · obtain ⟨rfl, rfl⟩ := yy
                obtain ⟨x13, x14, cs, rfl, f9, h9, hcl, hcm, G9⟩ := h
                have he9 := G9.ends
                wtm_at "go"
                refine KLc.mk (walk_tup (xs := Es.map V.str)) fun Dq hDq => ⟨fun j H' => LI [] H9 Dq (((Es.take j).filter fun n => !decide (n ∈ cs)).map PyData.str) H', .new (Frm.new hDq) upd_same, fun j H' _ h => SqT.of (h.fr.get0 he9), fun j y H11 H12 hj h yy => ?_, fun H11 hL2 => ?_⟩
                · obtain ⟨rfl, hy⟩ := yy
                  obtain ⟨nm, hnm, rfl⟩ := getMapStr hy
                  obtain ⟨us2, hu2, du2⟩ := h.at_
                  have hu2l : us2.length ≤ 64 := by
                    rw [du2.len, List.length_map]
                    have := List.length_filter_le (fun n => !decide (n ∈ cs)) (Es.take j)
                    have := G.l64
                    rw [List.length_take] at *
                    omega
                  wtm_at "wi"
                  wtm_at "go"
                  refine g_ninL (h.fr.get0 h9) rfl (flatStrs cs) ?_
                  rw [inV_str]
                  refine g_KB ?_
                  refine g_tst (fun zz => ?_) fun zz => ?_
                  · wtm_at "go"
                    refine g_acc hu2 (by omega) ?_
                    show LI [] H9 Dq (((Es.take (j + 1)).filter fun n => !decide (n ∈ cs)).map PyData.str) _
                    have ef : ([nm].filter fun n => !decide (n ∈ cs)) = [nm] := by rw [List.filter_cons, if_pos zz]; rfl
                    rw [take_snoc hnm, List.filter_append, ef, List.map_append]
                    exact h.app hDq hu2 (.str _)
                  · show LI [] H9 Dq (((Es.take (j + 1)).filter fun n => !decide (n ∈ cs)).map PyData.str) _
                    have ef : ([nm].filter fun n => !decide (n ∈ cs)) = [] := by rw [List.filter_cons, if_neg (by rw [zz]; decide)]; rfl
                    rw [take_snoc hnm, List.filter_append, ef, List.append_nil]
                    exact h
                · rw [List.length_map, List.take_length] at hL2
                  have hrp := rest_pos (cs := cs) G.nd (by omega)
                  have hrm : ∀ y ∈ Es.filter (fun n => !decide (n ∈ cs)), y ∈ Es := fun y hy => (List.mem_filter.mp hy).1
                  have hrl : (Es.filter fun n => !decide (n ∈ cs)).length ≤ 64 := Nat.le_trans (List.length_filter_le _ _) G.l64
                  generalize (Es.filter fun n => !decide (n ∈ cs)) = RS at hL2 hrp hrm hrl
                  obtain ⟨us2, hu2, du2⟩ := hL2.at_
                  obtain rfl := du2.strs
                  have f11 := hL2.fr
                  have h11 := f11.get0 h9
                  have G11 := G9.frm0 f11
                  have hqd : Dq ≠ d := (G9.tape.ne hDq).1
                  wtm_at "go"
                  refine to2 ⟨d, c, RS.length, rfl, by rw [List.length_map], hrp, by omega, G11.tape, fun r6 H12 hr6 f12 hT12 => ?_⟩
                  obtain ⟨nm, hnm, mnm⟩ := pick (l := RS) hr6
                  have hu12 : H12 Dq = some (.lst (RS.map V.str)) := f12.at1 hqd hu2
                  have h12 : H12 lc = some (.lst (cs.map V.str)) := f12.at1 nT.1 h11
                  refine g_ixL hu12 (atI_nat (v := .str nm) (by rw [List.getElem?_map, hnm]; rfl)) ?_
                  wtm_at "go"
                  refine g_app h12 (by have := G.l64; rw [List.length_map]; omega) ?_
                  have f13 : Frm [lc] H12 (upd H12 lc (.lst (cs.map V.str ++ [V.str nm]))) := Frm.mut List.mem_cons_self h12 nt_lst
                  have G12 := G11.frm f12 hT12
                  obtain ⟨ps12, p1, p2⟩ := G12.parts
                  have nlp : lp ≠ lc := fun z => by
                    obtain ⟨pz, q1, _⟩ := G7.parts
                    rw [z, n8] at q1; cases q1
                  refine ⟨_, _, cs ++ [nm], rfl, ((f9.trans f11.any).trans f12).loc n8, by rw [upd_same, List.map_append]; rfl, by rw [List.length_append, hcl]; rfl, fun y hy => ?_, ?_⟩
                  · rcases List.mem_append.mp hy with hy | hy
                    · exact hcm y hy
                    · rw [List.mem_singleton.mp hy]; exact hrm nm mnm
                  · exact { G12 with tape := hT12.upd nT.1 nT.2, ends := f13.tupS G12.ends, parts := ⟨ps12, f13.at1 nlp p1, p2.frm f13⟩ }
              · obtain ⟨x13, x14, cs, rfl, f9, h9, hcl, hcm, G9⟩ := h
                have ha39 := f9.tupS ha3
                wtm_at "go"
                rename_i pt H10 f10 h10 p H11 n11 f11 h11
                exact q _ H11 (.call qq.1 cs) (((f07.trans f9).trans f10.any).trans f11.any) ((G9.tape.frm f10).frm f11) (.tup h11 (.cons (.str _) (.cons (.str _) (.cons (.tup (f11.get0 h10) DL.ofStrs) .nil))))
                  (gB.leaf rfl ⟨⟨qq, mq1, rfl, hcl.symm⟩, hcm⟩) (Nat.zero_le _) (mS_pos _)
        · wtm_at "go"
          have hz5 : ¬ r < 5 := by have := of_decide_eq_false z; omega
          have hz6 : ¬ r = 5 := of_decide_eq_false (show decide (r = 5) = false by rw [← decI (b := 5)]; exact z3)
          have hz7 : ¬ r = 6 := of_decide_eq_false (show decide (r = 6) = false by rw [← decI (b := 6)]; exact z5)
          have hz8 : ¬ r = 7 := of_decide_eq_false (show decide (r = 7) = false by rw [← decI (b := 7)]; exact z6)
          have hk0 : k ≠ 0 := fun e => by have := hr8 e; omega
          obtain ⟨k', rfl⟩ : ∃ k', k = k' + 1 := ⟨k - 1, by omega⟩
          refine g_ite (fun z9 => ?_) fun z9 => ?_
          · wtm_at "go"
            rw [show ((k' + 1 : Nat) : Int) - 1 = (k' : Int) from by omega]
            refine to5 ⟨d, c, e, lp, Es, PS, k', 2, rfl, rfl, rfl, rfl, rfl, by decide, by omega, G4, fun vy H5 y f5 hT5 dy gy zy sy => ?_⟩
            wtm_at "go"
            refine to2 ⟨d, c, 1, rfl, rfl, by decide, hT5, fun v H6 xv f6 hT6 dv gv zv => ?_⟩
            wtm_at "go"
            rw [show ((k' + 1 : Nat) : Int) - 1 = (k' : Int) from by omega]
            refine to5 ⟨d, c, e, lp, Es, PS, k', 2, rfl, rfl, rfl, rfl, rfl, by decide, by omega, (G4.frm f5 hT5).frm f6 hT6, fun vn H7 yn f7 hT7 dn gn zn sn => ?_⟩
            wtm_at "go"
            rename_i p H8 n8 f8 h8
            refine q _ H8 (.ite a xv y yn) ((((f04.trans f5).trans f6).trans f7).trans f8.any) (hT7.frm f8) (.tup h8 (.cons (.str _) (.cons (.str _) (.cons ((dv.frm f7).frm f8) (.cons (((dy.frm f6).frm f7).frm f8) (.cons (dn.frm f8) .nil))))))
              (gB.node ⟨ma, ⟨gv, by omega⟩⟩ fun cc hcc => ?_) (by simp only [Stm.dp]; omega) (by simp only [Stm.sz, mS]; omega)
            simp only [inn, List.mem_cons, List.not_mem_nil, or_false] at hcc
            rcases hcc with rfl | rfl
            · exact gy
            · exact gn
          · wtm_at "go"
            refine to2 ⟨d, c, 1, rfl, rfl, by decide, hT4, fun v H6 xv f6 hT6 dv gv zv => ?_⟩
            wtm_at "go"
            rw [show ((k' + 1 : Nat) : Int) - 1 = (k' : Int) from by omega]
            refine to5 ⟨d, c, e, lp, Es, PS, k', 3, rfl, rfl, rfl, rfl, rfl, by decide, by omega, G4.frm f6 hT6, fun vn H7 yn f7 hT7 dn gn zn sn => ?_⟩
            wtm_at "go"
            rename_i p H8 n8 f8 h8
            refine q _ H8 (.whl a xv yn) (((f04.trans f6).trans f7).trans f8.any) (hT7.frm f8) (.tup h8 (.cons (.str _) (.cons (.str _) (.cons ((dv.frm f7).frm f8) (.cons (dn.frm f8) .nil)))))
              (gB.node ⟨ma, ⟨gv, by omega⟩⟩ fun cc hcc => ?_) (by simp only [Stm.dp]; omega) (by simp only [Stm.sz, mS]; omega)
            simp only [inn, List.mem_cons, List.not_mem_nil, or_false] at hcc
            subst hcc
            exact gn
end

structure EsOk (Es : List Str) : Prop where
  l2 : 2 ≤ Es.length
  l6 : Es.length ≤ 6
  nd : Es.Nodup
  ok : ∀ x ∈ Es, strOk x = true
structure PaOk (PS : List Part) (j : Nat) (q : Part) : Prop where
  g : gB q.2.1 (PS.take j) q.2.2
  dp : dpB q.2.2 ≤ 1
  sz : szB q.2.2 ≤ 10
  ly : lyP q
  l : q.2.1.length ≤ 64
def pn (k : Nat) : Str := ("p" : Str) ++ (toString ((0 : Int) + (k : Nat)) : String)
structure PsOk (PS : List Part) : Prop where
  l : PS.length ≤ 2
  nm : PS.map (·.1) = (List.range PS.length).map pn
  at_ : ∀ j q, PS[j]? = some q → PaOk PS j q
theorem pn_ok : ∀ k, k < 2 → strOk (pn k) = true := by
  intro k hk
  have : k = 0 ∨ k = 1 := by omega
  rcases this with rfl | rfl <;> decide +kernel
theorem pn_ne : pn 0 ≠ pn 1 := by decide +kernel
def encTG (Es : List Str) (PS : List Part) (B : List Stm) : PyData := .tuple [.tuple (Es.map .str), .tuple (PS.map encP), encBT B]
def abcd : List Str := ["a", "b", "c", "d"]
def xyz : List Str := ["x", "y", "z"]
theorem es_ok {r : Nat} (h : r < 3) : EsOk (abcd.take (2 + r)) := by
  have : r = 0 ∨ r = 1 ∨ r = 2 := by omega
  rcases this with rfl | rfl | rfl <;> exact ⟨by decide, by decide, by decide +kernel, by decide +kernel⟩
theorem ps_ok {r : Nat} (h : r < 3) : 1 ≤ (xyz.take (1 + r)).length ∧ (xyz.take (1 + r)).length ≤ 64 ∧ (xyz.take (1 + r)).Nodup ∧ ∀ x ∈ xyz.take (1 + r), strOk x = true := by
  have : r = 0 ∨ r = 1 ∨ r = 2 := by omega
  rcases this with rfl | rfl | rfl <;> exact ⟨by decide, by decide, by decide +kernel, by decide +kernel⟩
theorem PsOk.snoc {PS : List Part} (h : PsOk PS) {q : Part} (hl : PS.length < 2) (hn : q.1 = pn PS.length) (hq : PaOk PS PS.length q) : PsOk (PS ++ [q]) := by
  refine ⟨by rw [List.length_append, List.length_singleton]; omega, ?_, fun j p hj => ?_⟩
  · rw [List.map_append, h.nm, List.length_append, List.length_singleton, List.range_succ, List.map_append, List.map_singleton, List.map_singleton, hn]
  · by_cases hlt : j < PS.length
    · rw [List.getElem?_append_left hlt] at hj
      obtain ⟨g, d, s, ly, l⟩ := h.at_ j p hj
      exact ⟨by rw [List.take_append_of_le_length (by omega)]; exact g, d, s, ly, l⟩
    · have hj2 := (List.getElem?_eq_some_iff.mp hj).1
      rw [List.length_append, List.length_singleton] at hj2
      obtain rfl : j = PS.length := by omega
      rw [List.getElem?_append_right (Nat.le_refl _), Nat.sub_self] at hj
      obtain rfl : q = p := by simpa using hj
      obtain ⟨g, d, s, ly, l⟩ := hq
      rw [List.take_length] at g
      exact ⟨by rw [List.take_append_of_le_length (Nat.le_refl _), List.take_length]; exact g, d, s, ly, l⟩
section
variable {P : Program} {w : World} {K : PySem.W.Frag} {mg : Str → Option Value} {base : Heap}
abbrev sLawTree : Stmt := top 54
theorem scLawTree : FnScope ["_law_tape_here", "_law_depth", "_law_most", "_law_ends_here", "_law_parts", "_law_k", "_law_parameters", "_law_name"] ["_law_tape_here", "_law_depth", "_law_most"] (defScope sLawTree) := ⟨rfl, rfl, rfl, by decide +kernel, rfl, by decide +kernel, by decide +kernel⟩
def pTreeG (tp dp mo : V) (H : Hp) (Q : VK) (_ : XK) : Prop := ∃ (d c : Addr) (k m : Nat), tp = .ref d ∧ dp = .int (k : Nat) ∧ mo = .int (m : Nat) ∧ k < 3 ∧ m ≤ 100 ∧ Tape H d c ∧
  ∀ v H2 Es PS B, Frm [d] H H2 → Tape H2 d c → D H2 v (encTG Es PS B) → EsOk Es → PsOk PS → gB Es PS B → dpB B ≤ k → szB B ≤ m * mS k → Q v H2
theorem ok_treeG (T : Tx K mg) (A : At K mg "_law_tree" sLawTree ["_law_tape_here", "_law_depth", "_law_most"]) (C__law_take : Has P w K mg base CX0 "_law_take" ["_law_tape_here", "_law_many"] 1 (sp2 pTake))
    (C__law_block : Has P w K mg base CX0 "_law_block" ["_law_tape_here", "_law_ends_here", "_law_parts", "_law_depth", "_law_most"] 12 (sp5 (pBlk 3))) :
    Has P w K mg base CX0 "_law_tree" ["_law_tape_here", "_law_depth", "_law_most"] 13 (sp3 pTreeG) := by
  refine has_mk A scLawTree (fun vs H Q E h => by obtain ⟨_, _, _, rfl, _⟩ := h; rfl) fun f cdv A outer s H vs Q E hr h => ?_
  obtain ⟨tp, dp, mo, rfl, d, c, k, m, rfl, rfl, rfl, hk, hm, hT, q⟩ := h
  refine ⟨_, (pss_cons (ps_set (i := 3) scLawTree.nd rfl (Or.inl rfl) (pe_slice sl_tupA (pe_tup (pa_cons pe_str (pa_cons pe_str (pa_cons pe_str (pa_cons pe_str pa_nil))))) po_none (po_some (pe_op k_add pe_int (pe_h0 C__law_take (hr.mono (by omega)) (pa_cons (pv 0) (pa_cons pe_int pa_nil))))))) (pss_cons (ps_set (i := 4) scLawTree.nd rfl (Or.inl rfl) (pe_lst pa_nil)) (pss_cons (ps_for PassesOwn.never rfl (pi_range1 (by rfl) T.range (pa_cons (pe_h0 C__law_take (hr.mono (by omega)) (pa_cons (pv 0) (pa_cons pe_int pa_nil))) pa_nil)) (pg_name (i := 5) scLawTree.nd rfl (Or.inl rfl)) (pss_cons (ps_set (i := 6) scLawTree.nd rfl (Or.inl rfl) (pe_slice sl_tupA (pe_tup (pa_cons pe_str (pa_cons pe_str (pa_cons pe_str pa_nil)))) po_none (po_some (pe_op k_add pe_int (pe_h0 C__law_take (hr.mono (by omega)) (pa_cons (pv 0) (pa_cons pe_int pa_nil))))))) (pss_cons (ps_set (i := 7) scLawTree.nd rfl (Or.inl rfl) (pe_op k_addT pe_str (pe_callTy k_strI (by rfl) T.str (by decide +kernel) (pa_cons (pv 5) pa_nil)))) (pss_one (ps_expr (pe_bm PySem.F.plainAttrs_list PySem.F.slot_list_append PySem.F.type_list_append mt_append (pv 4) (pa_cons (pe_tup (pa_cons (pv 7) (pa_cons (pv 6) (pa_cons (pe_h0 C__law_block (hr.mono (by omega)) (pa_cons (pv 0) (pa_cons (pv 6) (pa_cons (pv 4) (pa_cons pe_int (pa_cons pe_int pa_nil)))))) pa_nil)))) pa_nil))))))) (pss_one (ps_ret (pe_tup (pa_cons (pv 3) (pa_cons (pe_callTy k_tup (by rfl) T.tuple (by decide +kernel) (pa_cons (pv 4) pa_nil)) (pa_cons (pe_h0 C__law_block (hr.mono (by omega)) (pa_cons (pv 0) (pa_cons (pv 3) (pa_cons (pv 4) (pa_cons (pv 1) (pa_cons (pv 2) pa_nil)))))) pa_nil))))))))), ?_⟩
  wtm_at "kk"
  refine g_st (σ' := [some (.ref d), some (.int (k : Nat)), some (.int (m : Nat)), none, none, none, none, none]) rfl ?_
  wtm_at "go"
  rename_i p0 H1 n1 f1 h1
  refine to2 ⟨d, c, 3, rfl, rfl, by decide, by decide, hT.frm f1, fun r H2 hr f2 hT2 => ?_⟩
  have h2 : H2 p0 = some (.tup (abcd.map V.str)) := f2.tupS h1
  wtm_at "go"
  refine g_slU (n := 2 + r) h2 (fun e H3 f3 he => ?_)
  rw [← List.map_take] at he
  have EO := es_ok hr
  generalize abcd.take (2 + r) = Es at he EO
  wtm_at "go"
  rename_i lp H4 n4 f4 h4
  have f04 : Frm [d] H H4 := ((f1.any.trans f2).trans f3.any).trans f4.any
  have hT4 := (hT2.frm f3).frm f4
  have he4 := f4.get0 he
  have nT := (hT2.frm f3).ne n4
  have n0 : H lp = none := by
    have a1 := f3.back0 n4
    have a2 := f2.back (by simpa using nT.1) a1
    exact f1.back0 a2
  clear h1 h2 he f1 f2 f3
  refine to2 ⟨d, c, 3, rfl, rfl, by decide, by decide, hT4, fun r2 H5 hr2 f5 hT5 => ?_⟩
  have f05 := f04.trans f5
  have h5 : H5 lp = some (.lst []) := f5.at1 nT.1 h4
  have he5 := f5.tupS he4
  wtm_at "go"
  refine g_kR (by omega) ?_
  refine KForJ.mk (walk_range (lo := 0) (n := r2)) (fun i σ H' => ∃ x5 x6 x7 vs PS, σ = [some (.ref d), some (.int (k : Nat)), some (.int (m : Nat)), some (.ref e), some (.ref lp), x5, x6, x7] ∧ Frm [d] H H' ∧ Tape H' d c ∧ H' e = some (.tup (Es.map V.str)) ∧ H' lp = some (.lst vs) ∧ DL H' vs (PS.map encP) ∧ PS.length = i ∧ PsOk PS)
    ⟨none, none, none, [], [], rfl, f05, hT5, he5, h5, .nil, rfl, ⟨Nat.zero_le _, rfl, fun j q h => by simp at h⟩⟩ (fun _ _ _ _ _ => trivial) (fun i y σ H7 H6 hi h yy => ?_) (fun σ H6 h => ?_)
  · obtain ⟨rfl, rfl⟩ := yy
    obtain ⟨x5, x6, x7, vs, PS, rfl, f06, hT6, he6, h6, d6, hPl, PO⟩ := h
    wtm_at "go"
    rename_i p7 H7 n7 f7 h7
    refine to2 ⟨d, c, 3, rfl, rfl, by decide, by decide, hT6.frm f7, fun r3 H8 hr3 f8 hT8 => ?_⟩
    have h8 : H8 p7 = some (.tup (xyz.map V.str)) := f8.tupS h7
    wtm_at "go"
    refine g_slU (n := 1 + r3) h8 (fun ep H9 f9 hep => ?_)
    rw [← List.map_take] at hep
    obtain ⟨o1, o2, o3, o4⟩ := ps_ok hr3
    generalize xyz.take (1 + r3) = ps at hep o1 o2 o3 o4
    have f09 : Frm [d] H H9 := ((f06.trans f7.any).trans f8).trans f9.any
    have f69 : Frm [d] H6 H9 := (f7.any.trans f8).trans f9.any
    have h9 : H9 lp = some (.lst vs) := f69.at1 nT.1 h6
    have d9 := d6.frm f69
    have hT9 := hT8.frm f9
    have he9 := f69.tupS he6
    wtm_at "go"
    refine ⟨(0 : Int) + (i : Nat), rfl, ?_, ?_⟩
    · have : i = 0 ∨ i = 1 := by omega
      rcases this with rfl | rfl <;> decide
    wtm_at "go"
    refine g_addT ?_ ?_
    · have : i = 0 ∨ i = 1 := by omega
      rcases this with rfl | rfl <;> decide +kernel
    show _
    wtm_at "go"
    have pok : ∀ q ∈ PS, lyP q ∧ q.2.1.length ≤ 64 := fun q hq => by
      obtain ⟨j, hj⟩ := List.mem_iff_getElem?.mp hq
      exact ⟨(PO.at_ j q hj).ly, (PO.at_ j q hj).l⟩
    refine to5 ⟨d, c, ep, lp, ps, PS, 1, 2, rfl, rfl, rfl, rfl, rfl, by decide, by decide, ⟨hT9, hep, ⟨vs, h9, d9⟩, nT.1, o1, o2, o3, o4, pok, by omega⟩, fun v H10 b f10 hT10 db gb zb sb => ?_⟩
    have h10 : H10 lp = some (.lst vs) := f10.at1 nT.1 h9
    wtm_at "go"
    rename_i pp H11 n11 f11 h11
    have h11l := f11.get0 h10
    have hvl : vs.length = PS.length := by rw [d9.len, List.length_map]
    refine g_app h11l (by omega) ?_
    have f12 : Frm [lp] H11 (upd H11 lp (.lst (vs ++ [.ref pp]))) := Frm.mut List.mem_cons_self h11l nt_lst
    have hnl : (lyP (pn i, ps, b)) := by
      have hi2 : i < 2 := by omega
      exact ⟨pn_ok i hi2, o4, fun t ht => (gb t ht).ly o4 (fun q hq => (pok q hq).1.1), Nat.le_trans zb (by decide)⟩
    refine ⟨_, _, _, vs ++ [.ref pp], PS ++ [(pn i, ps, b)], rfl, (((f09.trans f10).trans f11.any)).loc n0, (hT10.frm f11).upd nT.1 nT.2, f12.tupS (f11.tupS (f10.tupS he9)), upd_same, ?_, by rw [List.length_append, hPl]; rfl, PO.snoc (by omega) (by rw [hPl]) ⟨by rw [List.take_length]; exact gb, zb, by simp only [mS] at sb; omega, hnl, o2⟩⟩
    rw [List.map_append]
    refine (((d9.frm f10).frm f11).frm f12).app (.one (.tup (f12.tupS h11) (.cons (.str _) (.cons (.tup (f12.tupS (f11.tupS (f10.tupS hep))) DL.ofStrs) (.cons ((db.frm f11).frm f12) .nil)))))
  · obtain ⟨x5, x6, x7, vs, PS, rfl, f06, hT6, he6, h6, d6, hPl, PO⟩ := h
    have pok : ∀ q ∈ PS, lyP q ∧ q.2.1.length ≤ 64 := fun q hq => by
      obtain ⟨j, hj⟩ := List.mem_iff_getElem?.mp hq
      exact ⟨(PO.at_ j q hj).ly, (PO.at_ j q hj).l⟩
    wtm_at "go"
    rename_i pt H7 f7 h7
    refine to5 ⟨d, c, e, lp, Es, PS, k, m, rfl, rfl, rfl, rfl, rfl, hm, hk, ⟨hT6.frm f7, f7.get0 he6, ⟨vs, f7.get0 h6, d6.frm f7⟩, nT.1, by have := EO.l2; omega, by have := EO.l6; omega, EO.nd, EO.ok, pok, by omega⟩, fun v H8 b f8 hT8 db gb zb sb => ?_⟩
    wtm_at "go"
    rename_i pp H9 n9 f9 h9
    exact q _ H9 Es PS b (((f06.trans f7.any).trans f8).trans f9.any) (hT8.frm f9) (.tup h9 (.cons (.tup (f9.tupS (f8.tupS (f7.get0 he6))) DL.ofStrs) (.cons (.tup (f9.tupS (f8.tupS h7)) (((d6.frm f7).frm f8).frm f9)) (.cons (db.frm f9) .nil)))) EO PO gb zb sb
end

def NmT (kvs : List (Key × V)) (Fs Es : List Str) : Prop := ∀ x ∈ Fs, ∃ y ∈ Es, valV kvs (Sum.inr x) = some (.str y)
/-- the parts as a dict -/
def PtD (H : Hp) (kq : List (Key × V)) (PS : List Part) : Prop := ∀ q ∈ PS, ∃ t ap bp, valV kq (Sum.inr q.1) = some (.ref t) ∧ H t = some (.tup [.ref ap, bp]) ∧ H ap = some (.tup (q.2.1.map V.str)) ∧ D H bp (encBT q.2.2)
theorem PtD.frm {S : List Addr} {H H' : Hp} {kq : List (Key × V)} {PS : List Part} (h : PtD H kq PS) (f : Frm S H H') : PtD H' kq PS := fun q hq => by
  obtain ⟨t, ap, bp, h1, h2, h3, h4⟩ := h q hq
  exact ⟨t, ap, bp, h1, f.tupS h2, f.tupS h3, h4.frm f⟩
theorem pow_step {j j' : Nat} (h : j' < j) : 10 * 10 ^ j' ≤ 10 ^ j := by
  have : 10 ^ (j' + 1) ≤ 10 ^ j := Nat.pow_le_pow_right (by decide) h
  rw [Nat.pow_succ] at this
  omega
/-- one more statement, played -/
structure PlI (H : Hp) (lf : Addr) (Es Fs : List Str) (kn : List (Key × V)) (b : List Stm) (j i : Nat) (b' : List Stm) (H' : Hp) : Prop where
  no : H lf = none
  li : LI [] H lf (encB b') H'
  g : gB Es [] b'
  dp : dpB b' ≤ dpB b + j
  sz : szB b' ≤ szB (b.take i) * 10 ^ j
  id_ : NmOk kn Fs → j = 0 → b' = b.take i
theorem PlI.len {H H' : Hp} {lf : Addr} {Es Fs : List Str} {kn : List (Key × V)} {b b' : List Stm} {j i : Nat} (h : PlI H lf Es Fs kn b j i b' H') (l : szB b * 10 ^ j ≤ 400000) : b'.length ≤ 400000 := by
  have h1 := len_le_szB b'
  have h2 := h.sz
  have h3 : szB (b.take i) * 10 ^ j ≤ szB b * 10 ^ j := Nat.mul_le_mul_right _ (szB_take b i)
  omega
theorem PlI.frm {H H' H2 : Hp} {lf : Addr} {Es Fs : List Str} {kn : List (Key × V)} {b b' : List Stm} {j i : Nat} (h : PlI H lf Es Fs kn b j i b' H') (f : Frm [] H' H2) : PlI H lf Es Fs kn b j i b' H2 := { h with li := h.li.frm f }
theorem PlI.app {H H' : Hp} {lf : Addr} {Es Fs : List Str} {kn : List (Key × V)} {b b' : List Stm} {j i : Nat} {s s' : Stm} {vs : List V} {x : V} (h : PlI H lf Es Fs kn b j i b' H') (hs : b[i]? = some s) (hu : H' lf = some (.lst vs)) (dx : D H' x (encS s')) (g : gB Es [] [s'])
    (d : s'.dp ≤ s.dp + j) (z : s'.sz ≤ s.sz * 10 ^ j) (e : NmOk kn Fs → j = 0 → s' = s) : PlI H lf Es Fs kn b j (i + 1) (b' ++ [s']) (upd H' lf (.lst (vs ++ [x]))) := by
  have hd := dp_mem (List.mem_of_getElem? hs)
  refine ⟨h.no, by rw [encB_app]; exact h.li.app h.no hu dx, h.g.snoc g, ?_, ?_, fun n0 j0 => ?_⟩
  · have := h.dp
    rw [dpB_append]; simp only [dpB]; omega
  · rw [take_snoc hs, szB_snoc, szB_snoc, Nat.add_mul]
    have := h.sz; omega
  · rw [take_snoc hs, h.id_ n0 j0, e n0 j0]
theorem PlI.ext {H H' H2 : Hp} {lf l2 : Addr} {Es Fs : List Str} {kn : List (Key × V)} {b b' c' : List Stm} {j i : Nat} {s : Stm} {vs ws : List V} (h : PlI H lf Es Fs kn b j i b' H') (hs : b[i]? = some s) (hu : H' lf = some (.lst vs)) (f : Frm [] H' H2) (n2 : H l2 = none) (dw : DL H2 ws (encB c')) (e2 : H2 l2 = some (.lst (vs ++ ws))) (g : gB Es [] c')
    (d : dpB c' ≤ s.dp + j) (z : szB c' ≤ s.sz * 10 ^ j) (hj : j ≠ 0) : PlI H l2 Es Fs kn b j (i + 1) (b' ++ c') H2 := by
  have hd := dp_mem (List.mem_of_getElem? hs)
  have h2 := h.li.frm f
  refine ⟨n2, ⟨h2.fr, _, e2, by rw [encB_app]; exact ((h.li.dl hu).frm f).app dw⟩, fun t ht => ?_, ?_, ?_, fun _ j0 => absurd j0 hj⟩
  · rw [allB_append, List.mem_append] at ht
    exact ht.elim (h.g t) (g t)
  · have := h.dp
    rw [dpB_append]; omega
  · rw [take_snoc hs, szB_append, szB_snoc, Nat.add_mul]
    have := h.sz; omega
section
variable {P : Program} {w : World} {K : PySem.W.Frag} {mg : Str → Option Value} {base : Heap}
abbrev sLawPlayed : Stmt := top 57
theorem scLawPlayed : FnScope ["_law_block_here", "_law_names", "_law_parts", "_law_found", "_law_one", "_law_parameters", "_law_inner", "_law_more", "_law_k", "_law_yes"] ["_law_block_here", "_law_names", "_law_parts"] (defScope sLawPlayed) := ⟨rfl, rfl, rfl, by decide +kernel, rfl, by decide +kernel, by decide +kernel⟩
def pPld (m : Nat) (bl nm pa : V) (H : Hp) (Q : VK) (_ : XK) : Prop := ∃ (b : List Stm) (j : Nat) (Fs Es : List Str) (PS : List Part) (dn dq : Addr) (kn kq : List (Key × V)), D H bl (encBT b) ∧ gB Fs (PS.take j) b ∧ 10 * j + dpB b < m ∧ szB b * 10 ^ j ≤ 400000 ∧
  nm = .ref dn ∧ H dn = some (.dK kn) ∧ NmT kn Fs Es ∧ pa = .ref dq ∧ H dq = some (.dK kq) ∧ PtD H kq PS ∧ PsOk PS ∧
  ∀ v H2 b', Frm [] H H2 → D H2 v (encBT b') → gB Es [] b' → dpB b' ≤ dpB b + j → szB b' ≤ szB b * 10 ^ j → (NmOk kn Fs → j = 0 → b' = b) → Q v H2
theorem one_pow (j : Nat) : 1 ≤ 10 ^ j := Nat.one_le_pow _ _ (by decide)
theorem ok_pld (T : Tx K mg) (A : At K mg "_law_played" sLawPlayed ["_law_block_here", "_law_names", "_law_parts"]) : ∀ m, Has P w K mg base CX0 "_law_played" ["_law_block_here", "_law_names", "_law_parts"] (m + 1) (sp3 (pPld m))
  | 0 => has_no A fun vs H Q E h => by obtain ⟨_, _, _, _, _, _, _, _, _, _, _, _, _, _, _, h, _⟩ := h; exact absurd h (Nat.not_lt_zero _)
  | m + 1 => by
    have C__law_played := ok_pld T A m
    refine has_mk A scLawPlayed (fun vs H Q E h => by obtain ⟨_, _, _, rfl, _⟩ := h; rfl) fun f cdv A outer s H vs Q E hr h => ?_
    obtain ⟨bl, nm, pa, rfl, b, j, Fs, Es, PS, dn, dq, kn, kq, dB, hg, hm, hsz, rfl, hdn, hnm, rfl, hdq, hpt, PO, q⟩ := h
    obtain ⟨ab, xs, rfl, hb, dX⟩ := dB.tupE
    have hp1 := one_pow j
    refine ⟨_, (pss_cons (ps_set (i := 3) scLawPlayed.nd rfl (Or.inl rfl) (pe_lst pa_nil)) (pss_cons (ps_for PassesOwn.never rfl (pi_tup (pv 0)) (pg_name (i := 4) scLawPlayed.nd rfl (Or.inl rfl)) (pss_one (ps_if (pt_cmpR op_eq (pe_ix ix_tup (pv 4) pe_int (fun _ _ => rfl)) pe_str (nomark _)) (pss_cons (ps_asg (pe_dget (hu_of hr) (pv 2) (pe_ix ix_tup (pv 4) pe_int (fun _ _ => rfl)) (fun _ _ => rfl)) (pg_tup rfl (pgs_cons (pg_name (i := 5) scLawPlayed.nd rfl (Or.inl rfl)) (pgs_cons (pg_name (i := 6) scLawPlayed.nd rfl (Or.inl rfl)) pgs_nil)))) (pss_cons (ps_set (i := 7) scLawPlayed.nd rfl (Or.inl rfl) pe_dnewK) (pss_cons (ps_for PassesOwn.never rfl (pi_range1 (by rfl) T.range (pa_cons (pe_callB k_len (by rfl) T.len PySem.boot_len (pa_cons (pv 5) pa_nil)) pa_nil)) (pg_name (i := 8) scLawPlayed.nd rfl (Or.inl rfl)) (pss_one (ps_dput (hu_of hr) (pv 7) (pe_ix ix_tup (pv 5) (pv 8) (fun _ _ => rfl)) (pe_dget (hu_of hr) (pv 1) (pe_ix ix_tup (pe_ix ix_tup (pv 4) pe_int (fun _ _ => rfl)) (pv 8) (fun _ _ => rfl)) (fun _ _ => rfl)) rfl))) (pss_one (ps_set (i := 3) scLawPlayed.nd rfl (Or.inl rfl) (pe_op op_cat (pv 3) (pe_callTy k_lst (by rfl) T.list (by decide +kernel) (pa_cons (pe_h0 C__law_played (hr.mono (by omega)) (pa_cons (pv 6) (pa_cons (pv 7) (pa_cons (pv 2) pa_nil)))) pa_nil)))))))) (pss_one (ps_if (pt_cmpR op_eq (pe_ix ix_tup (pv 4) pe_int (fun _ _ => rfl)) pe_str (nomark _)) (pss_one (ps_expr (pe_bm PySem.F.plainAttrs_list PySem.F.slot_list_append PySem.F.type_list_append mt_append (pv 3) (pa_cons (pe_op op_catA (pe_tup (pa_cons pe_str (pa_cons (pe_dget (hu_of hr) (pv 1) (pe_ix ix_tup (pv 4) pe_int (fun _ _ => rfl)) (fun _ _ => rfl)) (pa_cons (pe_dget (hu_of hr) (pv 1) (pe_ix ix_tup (pv 4) pe_int (fun _ _ => rfl)) (fun _ _ => rfl)) pa_nil)))) (pe_slice sl_tupA (pv 4) (po_some pe_int) po_none)) pa_nil)))) (pss_one (ps_if (pt_cmpR op_eq (pe_ix ix_tup (pv 4) pe_int (fun _ _ => rfl)) pe_str (nomark _)) (pss_cons (ps_set (i := 9) scLawPlayed.nd rfl (Or.inl rfl) (pe_h0 C__law_played (hr.mono (by omega)) (pa_cons (pe_ix ix_tup (pv 4) pe_int (fun _ _ => rfl)) (pa_cons (pv 1) (pa_cons (pv 2) pa_nil))))) (pss_one (ps_expr (pe_bm PySem.F.plainAttrs_list PySem.F.slot_list_append PySem.F.type_list_append mt_append (pv 3) (pa_cons (pe_tup (pa_cons pe_str (pa_cons (pe_dget (hu_of hr) (pv 1) (pe_ix ix_tup (pv 4) pe_int (fun _ _ => rfl)) (fun _ _ => rfl)) (pa_cons (pe_ix ix_tup (pv 4) pe_int (fun _ _ => rfl)) (pa_cons (pv 9) (pa_cons (pe_h0 C__law_played (hr.mono (by omega)) (pa_cons (pe_ix ix_tup (pv 4) pe_int (fun _ _ => rfl)) (pa_cons (pv 1) (pa_cons (pv 2) pa_nil)))) pa_nil)))))) pa_nil))))) (pss_one (ps_if (pt_cmpR op_eq (pe_ix ix_tup (pv 4) pe_int (fun _ _ => rfl)) pe_str (nomark _)) (pss_one (ps_expr (pe_bm PySem.F.plainAttrs_list PySem.F.slot_list_append PySem.F.type_list_append mt_append (pv 3) (pa_cons (pe_tup (pa_cons pe_str (pa_cons (pe_dget (hu_of hr) (pv 1) (pe_ix ix_tup (pv 4) pe_int (fun _ _ => rfl)) (fun _ _ => rfl)) (pa_cons (pe_ix ix_tup (pv 4) pe_int (fun _ _ => rfl)) (pa_cons (pe_h0 C__law_played (hr.mono (by omega)) (pa_cons (pe_ix ix_tup (pv 4) pe_int (fun _ _ => rfl)) (pa_cons (pv 1) (pa_cons (pv 2) pa_nil)))) pa_nil))))) pa_nil)))) (pss_one (ps_expr (pe_bm PySem.F.plainAttrs_list PySem.F.slot_list_append PySem.F.type_list_append mt_append (pv 3) (pa_cons (pe_op op_catA (pe_tup (pa_cons (pe_ix ix_tup (pv 4) pe_int (fun _ _ => rfl)) (pa_cons (pe_dget (hu_of hr) (pv 1) (pe_ix ix_tup (pv 4) pe_int (fun _ _ => rfl)) (fun _ _ => rfl)) pa_nil))) (pe_slice sl_tupA (pv 4) (po_some pe_int) po_none)) pa_nil))))))))))))) (pss_one (ps_ret (pe_callTy k_tup (by rfl) T.tuple (by decide +kernel) (pa_cons (pv 3) pa_nil)))))), ?_⟩
    wtm_at "kk"
    refine g_st (σ' := [some (.ref ab), some (.ref dn), some (.ref dq), none, none, none, none, none, none, none]) rfl ?_
    wtm_at "go"
    rename_i l0 H1 n0 f1 h0
    refine KForT.mk (xs := xs) (fun i σ H' => ∃ lf x4 x5 x6 x7 x8 x9 b', σ = [some (.ref ab), some (.ref dn), some (.ref dq), some (.ref lf), x4, x5, x6, x7, x8, x9] ∧ PlI H lf Es Fs kn b j i b' H')
      (fun i σ H' _ h => by obtain ⟨_, _, _, _, _, _, _, _, _, h⟩ := h; exact h.li.fr.get0 hb) ⟨l0, none, none, none, none, none, none, [], rfl, n0, .new f1 h0, (fun t ht => nomatch ht), Nat.zero_le _, Nat.zero_le _, fun _ _ => rfl⟩ (fun i x σ H' hx h => ?_) (fun σ H' h => ?_)
    · obtain ⟨lf, x4, x5, x6, x7, x8, x9, b', rfl, hI⟩ := h
      have fH := hI.li.fr
      obtain ⟨sm, hs, dS⟩ := (dX.frm fH).stm hx
      have hsm := List.mem_of_getElem? hs
      have gs := hg.at_ hsm
      have hdp := dp_mem hsm
      have hzs := sz_mem hsm
      have hzj : sm.sz * 10 ^ j ≤ szB b * 10 ^ j := Nat.mul_le_mul_right _ hzs
      have hdn' := fH.get0 hdn
      have hdq' := fH.get0 hdq
      have hlen := hI.len hsz
      obtain ⟨us, hu, du⟩ := hI.li.at_
      have hul : us.length = b'.length := du.encLen
      have hid : ∀ {x y : Str}, x ∈ Fs → valV kn (Sum.inr x) = some (.str y) → NmOk kn Fs → y = x := fun {x y} hx hv hn => by
        have := hn x hx
        rw [this] at hv
        cases hv; rfl
      cases sm with
      | msg fr t l v y =>
        obtain ⟨b1, x0, x1, x2, x3, x4, x5, rfl, hb1, d0, d1, d2, d3, d4, d5⟩ := D.t6 dS
        cases d0
        cases d1
        cases d2
        obtain ⟨g1, g2, g3⟩ := gs
        obtain ⟨y1, my1, v1⟩ := hnm fr g1
        obtain ⟨y2, my2, v2⟩ := hnm t g2
        wtm_at "go"
        try (refine g_dgetS hdn' v1 ?_)
        wtm_at "go"
        try (refine g_dgetS hdn' v2 ?_)
        wtm_at "go"
        rename_i p1 H2 n2 f2 h2 p2 H3 f3 h3 p3 H4 f4 h4
        have f04 : Frm [] H' H4 := (f2.trans f3).trans f4
        refine g_app (f04.get0 hu) (by omega) ?_
        exact ⟨_, _, _, _, _, _, _, _, rfl, (hI.frm f04).app hs (f04.get0 hu) (s' := .msg y1 y2 l v y) (.tup h4 (.cons (.str _) (.cons (.str _) (.cons (.str _) (.cons (d3.frm f04) (.cons (d4.frm f04) (.cons (d5.frm f04) .nil)))))))
          (gB.leaf rfl ⟨my1, my2, g3⟩) (Nat.zero_le _) (by simp only [Stm.sz]; omega) (fun n0 _ => by rw [hid g1 v1 n0, hid g2 v2 n0])⟩
      | set e y v =>
        obtain ⟨b1, x0, x1, x2, x3, rfl, hb1, d0, d1, d2, d3⟩ := D.t4 dS
        cases d0
        cases d1
        obtain ⟨g1, g3⟩ := gs
        obtain ⟨y1, my1, v1⟩ := hnm e g1
        wtm_at "go"
        try (refine g_dgetS hdn' v1 ?_)
        wtm_at "go"
        rename_i p1 H2 n2 f2 h2 p2 H3 f3 h3 p3 H4 f4 h4
        have f04 : Frm [] H' H4 := (f2.trans f3).trans f4
        refine g_app (f04.get0 hu) (by omega) ?_
        exact ⟨_, _, _, _, _, _, _, _, rfl, (hI.frm f04).app hs (f04.get0 hu) (s' := .set y1 y v) (.tup h4 (.cons (.str _) (.cons (.str _) (.cons (d2.frm f04) (.cons (d3.frm f04) .nil)))))
          (gB.leaf rfl ⟨my1, g3⟩) (Nat.zero_le _) (by simp only [Stm.sz]; omega) (fun n0 _ => by rw [hid g1 v1 n0])⟩
      | ask e y =>
        obtain ⟨b1, x0, x1, x2, rfl, hb1, d0, d1, d2⟩ := D.t3 dS
        cases d0
        cases d1
        obtain ⟨g1, g3⟩ := gs
        obtain ⟨y1, my1, v1⟩ := hnm e g1
        wtm_at "go"
        try (refine g_dgetS hdn' v1 ?_)
        wtm_at "go"
        rename_i p1 H2 n2 f2 h2 p2 H3 f3 h3 p3 H4 f4 h4
        have f04 : Frm [] H' H4 := (f2.trans f3).trans f4
        refine g_app (f04.get0 hu) (by omega) ?_
        exact ⟨_, _, _, _, _, _, _, _, rfl, (hI.frm f04).app hs (f04.get0 hu) (s' := .ask y1 y) (.tup h4 (.cons (.str _) (.cons (.str _) (.cons (d2.frm f04) .nil))))
          (gB.leaf rfl ⟨my1, g3⟩) (Nat.zero_le _) (by simp only [Stm.sz]; omega) (fun n0 _ => by rw [hid g1 v1 n0])⟩
      | ite e v y n =>
        obtain ⟨b1, x0, x1, x2, x3, x4, rfl, hb1, d0, d1, d2, d3, d4⟩ := D.t5 dS
        cases d0
        cases d1
        obtain ⟨g1, g3⟩ := gs
        obtain ⟨y1, my1, v1⟩ := hnm e g1
        have m1 : y ∈ inn (.ite e v y n) := by simp [inn]
        have m2 : n ∈ inn (.ite e v y n) := by simp [inn]
        have z1 := dp_inn m1
        have z2 := dp_inn m2
        have s1 : szB y * 10 ^ j ≤ szB b * 10 ^ j := Nat.mul_le_mul_right _ (by have := sz_innM m1; omega)
        have s2 : szB n * 10 ^ j ≤ szB b * 10 ^ j := Nat.mul_le_mul_right _ (by have := sz_innM m2; omega)
        wtm_at "go"
        refine to3 ⟨y, j, Fs, Es, PS, dn, dq, kn, kq, d3, hg.inn hsm m1, by omega, by omega, rfl, hdn', hnm, rfl, hdq', hpt.frm fH, PO, fun vy H2 y' f2 dy gy py sy ey => ?_⟩
        have hdn2 := f2.get0 hdn'
        wtm_at "go"
        try (refine g_dgetS hdn2 v1 ?_)
        wtm_at "go"
        refine to3 ⟨n, j, Fs, Es, PS, dn, dq, kn, kq, d4.frm f2, hg.inn hsm m2, by omega, by omega, rfl, hdn2, hnm, rfl, f2.get0 hdq', (hpt.frm fH).frm f2, PO, fun vn H3 n' f3 dn' gn pn' sn en => ?_⟩
        wtm_at "go"
        rename_i p3 H4 n4 f4 h4
        have f04 : Frm [] H' H4 := (f2.trans f3).trans f4
        refine g_app (f04.get0 hu) (by omega) ?_
        refine ⟨_, _, _, _, _, _, _, _, rfl, (hI.frm f04).app hs (f04.get0 hu) (s' := .ite y1 v y' n') (.tup h4 (.cons (.str _) (.cons (.str _) (.cons (d2.frm f04) (.cons ((dy.frm f3).frm f4) (.cons (dn'.frm f4) .nil))))))
          (gB.node ⟨my1, g3⟩ fun cc hcc => ?_) (by simp only [Stm.dp] at z1 z2 ⊢; omega) ?_ (fun n0 j0 => by rw [hid g1 v1 n0, ey n0 j0, en n0 j0])⟩
        · simp only [inn, List.mem_cons, List.not_mem_nil, or_false] at hcc
          rcases hcc with rfl | rfl
          · exact gy
          · exact gn
        · simp only [Stm.sz, Nat.add_mul, Nat.one_mul]; omega
      | whl e v cb =>
        obtain ⟨b1, x0, x1, x2, x3, rfl, hb1, d0, d1, d2, d3⟩ := D.t4 dS
        cases d0
        cases d1
        obtain ⟨g1, g3⟩ := gs
        obtain ⟨y1, my1, v1⟩ := hnm e g1
        have m1 : cb ∈ inn (.whl e v cb) := by simp [inn]
        have z1 := dp_inn m1
        have s1 : szB cb * 10 ^ j ≤ szB b * 10 ^ j := Nat.mul_le_mul_right _ (by have := sz_innM m1; omega)
        wtm_at "go"
        try (refine g_dgetS hdn' v1 ?_)
        wtm_at "go"
        refine to3 ⟨cb, j, Fs, Es, PS, dn, dq, kn, kq, d3, hg.inn hsm m1, by omega, by omega, rfl, hdn', hnm, rfl, hdq', hpt.frm fH, PO, fun vn H3 n' f3 dn' gn pn' sn en => ?_⟩
        wtm_at "go"
        rename_i p3 H4 n4 f4 h4
        have f04 : Frm [] H' H4 := f3.trans f4
        refine g_app (f04.get0 hu) (by omega) ?_
        refine ⟨_, _, _, _, _, _, _, _, rfl, (hI.frm f04).app hs (f04.get0 hu) (s' := .whl y1 v n') (.tup h4 (.cons (.str _) (.cons (.str _) (.cons (d2.frm f04) (.cons (dn'.frm f4) .nil)))))
          (gB.node ⟨my1, g3⟩ fun cc hcc => ?_) (by simp only [Stm.dp] at z1 ⊢; omega) ?_ (fun n0 j0 => by rw [hid g1 v1 n0, en n0 j0])⟩
        · simp only [inn, List.mem_cons, List.not_mem_nil, or_false] at hcc
          subst hcc
          exact gn
        · simp only [Stm.sz, Nat.add_mul, Nat.one_mul]; omega
      | call pq cs =>
        obtain ⟨b1, x0, x1, x2, rfl, hb1, d0, d1, d2⟩ := D.t3 dS
        cases d0
        cases d1
        obtain ⟨⟨qq, mq, rfl, hlq⟩, hcs⟩ := gs
        obtain ⟨j', hj'⟩ := List.mem_iff_getElem?.mp mq
        have hjlt : j' < j := by
          have := (List.getElem?_eq_some_iff.mp hj').1
          rw [List.length_take] at this; omega
        rw [List.getElem?_take_of_lt hjlt] at hj'
        have PA := PO.at_ j' qq hj'
        obtain ⟨t, ap, bp, v1, ht, hap, dbp⟩ := (hpt.frm fH) qq (List.mem_of_getElem? hj')
        obtain ⟨a2, ys, rfl, ha2, dys⟩ := d2.tupE
        obtain rfl := dys.strs
        have hpw := pow_step hjlt
        wtm_at "go"
        try (refine g_dgetS hdq' v1 ?_)
        wtm_at "go"
        refine fun dm ndm => ?_
        have fm : Frm [] H' (upd H' dm (.dK [])) := Frm.new ndm
        wtm_at "go"
        rw [List.length_map]
        refine g_kR (by have := PA.l; omega) ?_
        refine KForJ.mk (walk_range (lo := 0) (n := qq.2.1.length)) (fun k σ H2 => ∃ x8 km, σ = [some (.ref ab), some (.ref dn), some (.ref dq), some (.ref lf), some (.ref b1), some (.ref ap), some bp, some (.ref dm), x8, x9] ∧ Frm [] H' H2 ∧ H2 dm = some (.dK km) ∧ km.length ≤ k ∧ NmT km (qq.2.1.take k) Es)
          ⟨x8, [], rfl, fm, upd_same, Nat.le_refl _, (fun x hx => by simp at hx)⟩ (fun _ _ _ _ _ => trivial) (fun k y σ H3 H2 hk h yy => ?_) (fun σ H2 h => ?_)
        · obtain ⟨rfl, rfl⟩ := yy
          obtain ⟨x8, km, rfl, f2, hdm, hkl, hkm⟩ := h
          have hk2 : k < cs.length := by omega
          obtain ⟨z, hz, mz⟩ := pick (l := cs) hk2
          obtain ⟨pz, hpz, mpz⟩ := pick (l := qq.2.1) hk
          obtain ⟨yz, myz, vz⟩ := hnm z (hcs z mz)
          dsimp only
          rw [Int.zero_add]
          wtm_at "go"
          refine g_ixT (f2.get0 ha2) (atI_nat (v := .str z) (by rw [List.getElem?_map, hz]; rfl)) ?_
          wtm_at "go"
          try (refine g_dgetS (f2.get0 hdn') vz ?_)
          wtm_at "go"
          refine g_ixT (f2.get0 hap) (atI_nat (v := .str pz) (by rw [List.getElem?_map, hpz]; rfl)) ?_
          refine g_dputS hdm (by have := PA.l; omega) ?_
          refine ⟨_, _, rfl, f2.loc ndm, upd_same, by have := length_putK km (Sum.inr pz) (.str yz); omega, fun x hx => ?_⟩
          rw [valV_put]
          by_cases c : (Sum.inr x : Key) = Sum.inr pz
          · rw [if_pos c]; exact ⟨yz, myz, rfl⟩
          · rw [if_neg c]
            rw [take_snoc hpz] at hx
            rcases List.mem_append.mp hx with hx | hx
            · exact hkm x hx
            · exact absurd (by rw [List.mem_singleton.mp hx]) c
        · obtain ⟨x8, km, rfl, f2, hdm, hkl, hkm⟩ := h
          rw [List.take_length] at hkm
          have hu2 := f2.get0 hu
          have psz := PA.sz
          have pdp := PA.dp
          have hz2 : szB qq.2.2 * 10 ^ j' ≤ 10 * 10 ^ j' := Nat.mul_le_mul_right _ psz
          simp only [Stm.sz, Nat.one_mul] at hzj
          wtm_at "go"
          refine to3 ⟨qq.2.2, j', qq.2.1, Es, PS, dm, dq, km, kq, dbp.frm f2, PA.g, by omega, by omega, rfl, hdm, hkm, rfl, f2.get0 hdq', (hpt.frm fH).frm f2, PO, fun vr H3 c' f3 dr gr pr sr er => ?_⟩
          obtain ⟨ar, zs, rfl, har, dzs⟩ := dr.tupE
          have hcl := len_le_szB c'
          wtm_at "go"
          refine g_lstT har (fun l4 H4 n4 f4 h4 => ?_)
          have hu4 := f4.get0 (f3.get0 hu2)
          wtm_at "go"
          refine g_catL hu4 h4 (by rw [hul, dzs.encLen]; omega) (fun l5 H5 n5 f5 h5 => ?_)
          wtm_at "go"
          have f05 : Frm [] H' H5 := ((f2.trans f3).trans f4).trans f5
          refine ⟨_, _, _, _, _, _, _, _, rfl, hI.ext hs hu f05 (fH.back0 (((f2.trans f3).trans f4).back0 n5)) ((dzs.frm f4).frm f5) h5 gr (by simp only [Stm.dp]; omega) (by simp only [Stm.sz, Nat.one_mul]; omega) (by omega)⟩
    · obtain ⟨lf, x4, x5, x6, x7, x8, x9, b', rfl, hI⟩ := h
      have e := dX.encLen
      obtain ⟨us, hu, du⟩ := hI.li.at_
      wtm_at "go"
      rename_i p H2 f2 h2
      have z := hI.sz
      have i0 := hI.id_
      rw [e, List.take_length] at z i0
      exact q _ H2 b' (hI.li.fr.trans f2) (.tup h2 (du.frm f2)) hI.g hI.dp z i0
end

theorem PsOk.at1 {PS : List Part} (h : PsOk PS) {i : Nat} {q : Part} (e : PS[i]? = some q) : q.1 = pn i ∧ i < PS.length := by
  have hi := (List.getElem?_eq_some_iff.mp e).1
  have h1 : (PS.map (·.1))[i]? = some q.1 := by rw [List.getElem?_map, e]; rfl
  rw [h.nm, List.getElem?_map, List.getElem?_range hi] at h1
  exact ⟨(Option.some.inj h1).symm, hi⟩
theorem PsOk.ne {PS : List Part} (h : PsOk PS) {i : Nat} {q p : Part} (e : PS[i]? = some q) (hp : p ∈ PS.take i) : ¬ (Sum.inr p.1 : Key) = Sum.inr q.1 := by
  obtain ⟨j, hj⟩ := List.mem_iff_getElem?.mp hp
  have hjl := (List.getElem?_eq_some_iff.mp hj).1
  rw [List.length_take] at hjl
  rw [List.getElem?_take_of_lt (by omega)] at hj
  obtain ⟨e1, l1⟩ := h.at1 e
  obtain ⟨e2, l2⟩ := h.at1 hj
  have := h.l
  have hj0 : j = 0 := by omega
  have hi1 : i = 1 := by omega
  subst hj0 hi1
  intro z
  rw [e1, e2] at z
  exact pn_ne (Sum.inr.inj z)
section
variable {P : Program} {w : World} {K : PySem.W.Frag} {mg : Str → Option Value} {base : Heap}
abbrev sLawPlay : Stmt := top 58
theorem scLawPlay : FnScope ["_law_tree_here", "_law_parts", "_law_name", "_law_parameters", "_law_block_here", "_law_names", "_law_end"] ["_law_tree_here"] (defScope sLawPlay) := ⟨rfl, rfl, rfl, by decide +kernel, rfl, by decide +kernel, by decide +kernel⟩
def pPlay (tr : V) (H : Hp) (Q : VK) (_ : XK) : Prop := ∃ (Es : List Str) (PS : List Part) (B : List Stm), D H tr (encTG Es PS B) ∧ EsOk Es ∧ PsOk PS ∧ gB Es PS B ∧ dpB B ≤ 8 ∧ szB B * 10 ^ PS.length ≤ 400000 ∧
  ∀ v H2 b', Frm [] H H2 → D H2 v (encBT b') → gB Es [] b' → dpB b' ≤ dpB B + PS.length → szB b' ≤ szB B * 10 ^ PS.length → (PS = [] → b' = B) → Q v H2
theorem ok_play (T : Tx K mg) (A : At K mg "_law_play" sLawPlay ["_law_tree_here"]) (C__law_played : Has P w K mg base CX0 "_law_played" ["_law_block_here", "_law_names", "_law_parts"] 31 (sp3 (pPld 30))) :
    Has P w K mg base CX0 "_law_play" ["_law_tree_here"] 32 (sp1 pPlay) := by
  refine has_mk A scLawPlay (fun vs H Q E h => by obtain ⟨_, rfl, _⟩ := h; rfl) fun f cdv A outer s H vs Q E hr h => ?_
  obtain ⟨tr, rfl, Es, PS, B, dT, EO, PO, hg, hdp, hsz, q⟩ := h
  obtain ⟨a, v0, v1, v2, rfl, ha, d0, d1, d2⟩ := D.t3 dT
  obtain ⟨e, es, rfl, he, des⟩ := d0.tupE
  obtain rfl := des.strs
  obtain ⟨p, ps, rfl, hp, dps⟩ := d1.tupE
  refine ⟨_, (pss_cons (ps_set (i := 1) scLawPlay.nd rfl (Or.inl rfl) pe_dnewK) (pss_cons (ps_for PassesOwn.never rfl (pi_tup (pe_ix ix_tup (pv 0) pe_int (fun _ _ => rfl))) (pg_tup rfl (pgs_cons (pg_name (i := 2) scLawPlay.nd rfl (Or.inl rfl)) (pgs_cons (pg_name (i := 3) scLawPlay.nd rfl (Or.inl rfl)) (pgs_cons (pg_name (i := 4) scLawPlay.nd rfl (Or.inl rfl)) pgs_nil)))) (pss_one (ps_dput (hu_of hr) (pv 1) (pv 2) (pe_tup (pa_cons (pv 3) (pa_cons (pv 4) pa_nil))) rfl))) (pss_cons (ps_set (i := 5) scLawPlay.nd rfl (Or.inl rfl) pe_dnewK) (pss_cons (ps_for PassesOwn.never rfl (pi_tup (pe_ix ix_tup (pv 0) pe_int (fun _ _ => rfl))) (pg_name (i := 6) scLawPlay.nd rfl (Or.inl rfl)) (pss_one (ps_dput (hu_of hr) (pv 5) (pv 6) (pv 6) rfl))) (pss_one (ps_ret (pe_h0 C__law_played (hr.mono (by omega)) (pa_cons (pe_ix ix_tup (pv 0) pe_int (fun _ _ => rfl)) (pa_cons (pv 5) (pa_cons (pv 1) pa_nil)))))))))), ?_⟩
  wtm_at "kk"
  refine g_st (σ' := [some (.ref a), none, none, none, none, none, none]) rfl ?_
  wtm_at "go"
  refine fun dq ndq => ?_
  have f1 : Frm [] H (upd H dq (.dK [])) := Frm.new ndq
  wtm_at "go"
  refine KForT.mk (xs := ps) (fun i σ H' => ∃ x2 x3 x4 kq, σ = [some (.ref a), some (.ref dq), x2, x3, x4, none, none] ∧ Frm [] H H' ∧ H' dq = some (.dK kq) ∧ kq.length ≤ i ∧ PtD H' kq (PS.take i))
    (fun i σ H' _ h => by obtain ⟨_, _, _, _, _, h, _⟩ := h; exact h.get0 hp) ⟨none, none, none, [], rfl, f1, upd_same, Nat.le_refl _, (fun q hq => by simp at hq)⟩ (fun i x σ H' hx h => ?_) (fun σ H' h => ?_)
  · obtain ⟨x2, x3, x4, kq, rfl, fH, hdq, hkl, hpt⟩ := h
    obtain ⟨dd, hdd, dx⟩ := (dps.frm fH).getV hx
    rw [List.getElem?_map] at hdd
    cases hqq : PS[i]? with
    | none => rw [hqq] at hdd; cases hdd
    | some qq =>
      rw [hqq] at hdd
      obtain rfl : encP qq = dd := Option.some.inj hdd
      obtain ⟨t3, y0, y1, y2, rfl, ht3, e0, e1, e2⟩ := D.t3 dx
      cases e0
      obtain ⟨ap, zs, rfl, hap, dzs⟩ := e1.tupE
      obtain rfl := dzs.strs
      have hpl := (PO.at1 hqq).2
      have hp2 := PO.l
      wtm_at "go"
      rename_i t H2 n2 f2 h2
      have hdq2 := f2.get0 hdq
      refine g_dputS hdq2 (by omega) ?_
      have f3 : Frm [dq] H2 (upd H2 dq (.dK (putK kq (Sum.inr qq.1) (.ref t)))) := Frm.mut List.mem_cons_self hdq2 nt_dK
      refine ⟨_, _, _, _, rfl, (fH.trans f2).loc ndq, upd_same, by have := length_putK kq (Sum.inr qq.1) (.ref t); omega, fun r hr => ?_⟩
      rw [take_snoc hqq] at hr
      rcases List.mem_append.mp hr with hr | hr
      · obtain ⟨t', ap', bp', k1, k2, k3, k4⟩ := hpt r hr
        refine ⟨t', ap', bp', ?_, f3.tupS (f2.get0 k2), f3.tupS (f2.get0 k3), (k4.frm f2).frm f3⟩
        rw [valV_put, if_neg (PO.ne hqq hr)]; exact k1
      · rw [List.mem_singleton.mp hr]
        exact ⟨t, ap, y2, by rw [valV_put, if_pos rfl], f3.tupS h2, f3.tupS (f2.get0 hap), (e2.frm f2).frm f3⟩
  · obtain ⟨x2, x3, x4, kq, rfl, fH, hdq, hkl, hpt⟩ := h
    have hpl : ps.length = PS.length := by rw [dps.len, List.length_map]
    rw [hpl, List.take_length] at hpt
    wtm_at "go"
    refine fun dn ndn => ?_
    have f2 : Frm [] H' (upd H' dn (.dK [])) := Frm.new ndn
    wtm_at "go"
    refine KForT.mk (xs := Es.map V.str) (fun i σ H2 => ∃ x6 kn, σ = [some (.ref a), some (.ref dq), x2, x3, x4, some (.ref dn), x6] ∧ Frm [] H' H2 ∧ H2 dn = some (.dK kn) ∧ kn.length ≤ i ∧ NmOk kn (Es.take i))
      (fun i σ H2 _ h => by obtain ⟨_, _, _, h, _⟩ := h; exact h.get0 (fH.get0 he)) ⟨none, [], rfl, f2, upd_same, Nat.le_refl _, (fun q hq => by simp at hq)⟩ (fun i x σ H2 hx h => ?_) (fun σ H2 h => ?_)
    · obtain ⟨x6, kn, rfl, f3, hdn, hkn, hnm⟩ := h
      obtain ⟨z, hz, rfl⟩ := getMapStr hx
      have hi := (List.getElem?_eq_some_iff.mp hz).1
      have h6 := EO.l6
      wtm_at "go"
      refine g_dputS hdn (by omega) ?_
      refine ⟨_, _, rfl, f3.loc ndn, upd_same, by have := length_putK kn (Sum.inr z) (.str z); omega, fun y hy => ?_⟩
      rw [valV_put]
      by_cases c : (Sum.inr y : Key) = Sum.inr z
      · rw [if_pos c, Sum.inr.inj c]
      · rw [if_neg c]
        rw [take_snoc hz] at hy
        rcases List.mem_append.mp hy with hy | hy
        · exact hnm y hy
        · exact absurd (by rw [List.mem_singleton.mp hy]) c
    · obtain ⟨x6, kn, rfl, f3, hdn, hkn, hnm⟩ := h
      rw [List.length_map, List.take_length] at hnm
      have f03 : Frm [] H H2 := fH.trans f3
      have hp2 := PO.l
      wtm_at "go"
      refine to3 ⟨B, PS.length, Es, Es, PS, dn, dq, kn, kq, d2.frm f03, by rw [List.take_length]; exact hg, by omega, hsz, rfl, hdn, fun x hx => ⟨x, hx, hnm x hx⟩, rfl, f3.get0 hdq, hpt.frm f3, PO, fun v H3 b' f4 dv gv pv sv ev => ?_⟩
      exact q v H3 b' (f03.trans f4) dv gv pv sv fun z => ev hnm (by rw [z]; rfl)
end

set_option maxHeartbeats 8000000

theorem decSt {a b : Str} : (!decide (V.str a = V.str b)) = !decide (a = b) := by
  by_cases h : a = b
  · subst h; simp
  · rw [decide_eq_false h, decide_eq_false (fun z => h (V.str.inj z))]
theorem log_small {n : Nat} (h : n < 2 ^ 1920) : ((n : Int).natAbs).log2 < 1920 := by
  rw [Int.natAbs_natCast]
  exact log2_small h
theorem gB_app {Es : List Str} {PS : List Part} {a b : List Stm} (h1 : gB Es PS a) (h2 : gB Es PS b) : gB Es PS (a ++ b) := fun t ht => by
  rw [allB_append, List.mem_append] at ht
  exact ht.elim (h1 t) (h2 t)
theorem msgs_ok {Es OS : List Str} {ev tg : Str} (he : ev ∈ Es) (ho : ∀ z ∈ OS, z ∈ Es) (ht : strOk tg = true) : gB Es [] (OS.map fun z => Stm.msg ev z tg (.num 0) "t") := by
  induction OS with
  | nil => exact fun t ht => nomatch ht
  | cons z r ih =>
    have h1 := ih fun y hy => ho y (List.mem_cons_of_mem _ hy)
    have h2 : gB Es [] [Stm.msg ev z tg (.num 0) "t"] := gB.leaf rfl ⟨he, ho z List.mem_cons_self, ht, ⟨nums_ok 0 (by simp [nums]), by decide⟩, by decide +kernel⟩
    exact gB_app h2 h1
theorem msgs_sz (OS : List Str) (ev tg : Str) : szB (OS.map fun z => Stm.msg ev z tg (.num 0) "t") = OS.length := by
  induction OS with
  | nil => rfl
  | cons z r ih => simp only [List.map_cons, szB, Stm.sz, ih, List.length_cons]; omega
theorem msgs_dp (OS : List Str) (ev tg : Str) : dpB (OS.map fun z => Stm.msg ev z tg (.num 0) "t") = 0 := by
  induction OS with
  | nil => rfl
  | cons z r ih => simp only [List.map_cons, dpB, Stm.dp, ih]; omega
section
variable {P : Program} {w : World} {K : PySem.W.Frag} {mg : Str → Option Value} {base : Heap}
abbrev sLawTell : Stmt := top 59
theorem scLawTell : FnScope ["_law_ends_here", "_law_block_here", "_law_often", "_law_out", "_law_tape_here", "_law_result", "_law_one", "_law_tag", "_law_others", "_law_yes", "_law_no", "_law_inner", "_law_end"] ["_law_ends_here", "_law_block_here", "_law_often", "_law_out", "_law_tape_here"] (defScope sLawTell) := ⟨rfl, rfl, rfl, by decide +kernel, rfl, by decide +kernel, by decide +kernel⟩
def pTell (n : Nat) (en bl of_ ou tp : V) (H : Hp) (Q : VK) (_ : XK) : Prop := ∃ (d c e lo : Addr) (o : Int) (Es : List Str) (b : List Stm) (ol : List V), en = .ref e ∧ H e = some (.tup (Es.map V.str)) ∧ EsOk Es ∧ D H bl (encBT b) ∧ gB Es [] b ∧ dpB b < n ∧ szB b ≤ 20000 ∧ of_ = .int o ∧ ou = .ref lo ∧ H lo = some (.lst ol) ∧
  ol.length + szB b ≤ 100000 ∧ lo ≠ d ∧ lo ≠ c ∧ tp = .ref d ∧ Tape H d c ∧ ∀ v H2 b' ol', Frm [d, lo] H H2 → Tape H2 d c → H2 lo = some (.lst ol') → ol'.length ≤ ol.length + szB b → D H2 v (encBT b') → gB Es [] b' → dpB b' ≤ dpB b → szB b' ≤ 13 * szB b → Q v H2
theorem ok_tell (T : Tx K mg) (A : At K mg "_law_tell" sLawTell ["_law_ends_here", "_law_block_here", "_law_often", "_law_out", "_law_tape_here"]) (C__law_take : Has P w K mg base CX0 "_law_take" ["_law_tape_here", "_law_many"] 1 (sp2 pTake)) :
    ∀ n, Has P w K mg base CX0 "_law_tell" ["_law_ends_here", "_law_block_here", "_law_often", "_law_out", "_law_tape_here"] (n + 2) (sp5 (pTell n))
  | 0 => has_no A fun vs H Q E h => by obtain ⟨_, _, _, _, _, _, _, _, _, _, _, _, _, _, _, _, _, _, _, h, _⟩ := h; exact absurd h (Nat.not_lt_zero _)
  | n + 1 => by
    have C__law_tell := ok_tell T A C__law_take n
    refine has_mk A scLawTell (fun vs H Q E h => by obtain ⟨_, _, _, _, _, rfl, _⟩ := h; rfl) fun f cdv A outer s H vs Q E hr h => ?_
    obtain ⟨en, bl, of_, ou, tp, rfl, d, c, e, lo, o, Es, b, ol, rfl, he, EO, dB, hg, hdp, hsz, rfl, rfl, hlo0, hol0, hlod, hloc, rfl, hT0, q⟩ := h
    obtain ⟨ab, xs, rfl, hb, dX⟩ := dB.tupE
    obtain ⟨kd0, hd0⟩ := hT0.dK
    refine ⟨_, (pss_cons (ps_set (i := 5) scLawTell.nd rfl (Or.inl rfl) (pe_lst pa_nil)) (pss_cons (ps_for PassesOwn.never rfl (pi_tup (pv 1)) (pg_name (i := 6) scLawTell.nd rfl (Or.inr rfl)) (pss_one (ps_if (PW.pt (pw_and (pt_cmpR op_in_seq (pe_ix ix_tup (pv 6) pe_int (fun _ _ => rfl)) (pe_lst (pa_cons pe_str (pa_cons pe_str pa_nil))) (by rfl)) (pw_and1 (pt_cmpR k_lt (pe_h0 C__law_take (hr.mono (by omega)) (pa_cons (pv 4) (pa_cons pe_int pa_nil))) (pv 2) (nomark _))))) (pss_cons (ps_expr (pe_bm PySem.F.plainAttrs_list PySem.F.slot_list_append PySem.F.type_list_append mt_append (pv 3) (pa_cons (pv 6) pa_nil))) (pss_cons (ps_set (i := 7) scLawTell.nd rfl (Or.inr rfl) (pe_callTy k_strI (by rfl) T.str (by decide +kernel) (pa_cons (pe_callB k_len (by rfl) T.len PySem.boot_len (pa_cons (pv 3) pa_nil)) pa_nil))) (pss_cons (ps_setLc (i := 8) (own := [("_law_end", 12)]) rfl scLawTell.nd rfl rfl (sw_true rfl rfl rfl (by decide +kernel)) (pi_tup (pv 0)) (blkOk_by (own := [("_law_end", 12)]) (N := ["_law_ends_here", "_law_block_here", "_law_often", "_law_out", "_law_tape_here", "_law_result", "_law_one", "_law_tag", "_law_others", "_law_yes", "_law_no", "_law_inner", "_law_end"]) (sc := defScope sLawTell) (by decide +kernel)) (fun _ _ _ _ _ => (pg_name (i := 12) scLawTell.nd rfl (Or.inl rfl))) (fun _ _ _ _ _ => (pts_one (pt_cmpR op_ne (pv 12) (pe_ix (b_ixT K) (pv 6) pe_int (fun _ _ => rfl)) (nomark _)))) (fun _ _ _ _ _ => (pv 12))) (pss_cons (ps_set (i := 9) scLawTell.nd rfl (Or.inl rfl) (pe_callTy k_tup (by rfl) T.tuple (by decide +kernel) (pa_cons (pe_lc (own := [("_law_end", 12)]) rfl scLawTell.nd (pi_list (pv 8)) (blkOk_by (own := [("_law_end", 12)]) (N := ["_law_ends_here", "_law_block_here", "_law_often", "_law_out", "_law_tape_here", "_law_result", "_law_one", "_law_tag", "_law_others", "_law_yes", "_law_no", "_law_inner", "_law_end"]) (sc := defScope sLawTell) (by decide +kernel)) (fun _ _ _ _ _ => (pg_name (i := 12) scLawTell.nd rfl (Or.inl rfl))) (fun _ _ _ _ _ => pts_nil) (fun _ _ _ _ _ => (pe_tup (pa_cons pe_str (pa_cons (pe_ix (b_ixT K) (pv 6) pe_int (fun _ _ => rfl)) (pa_cons (pv 12) (pa_cons (pe_op k_addT pe_str (pv 7)) (pa_cons (pe_tup (pa_cons pe_str (pa_cons pe_int pa_nil))) (pa_cons pe_str pa_nil))))))))) pa_nil))) (pss_cons (ps_set (i := 10) scLawTell.nd rfl (Or.inl rfl) (pe_callTy k_tup (by rfl) T.tuple (by decide +kernel) (pa_cons (pe_lc (own := [("_law_end", 12)]) rfl scLawTell.nd (pi_list (pv 8)) (blkOk_by (own := [("_law_end", 12)]) (N := ["_law_ends_here", "_law_block_here", "_law_often", "_law_out", "_law_tape_here", "_law_result", "_law_one", "_law_tag", "_law_others", "_law_yes", "_law_no", "_law_inner", "_law_end"]) (sc := defScope sLawTell) (by decide +kernel)) (fun _ _ _ _ _ => (pg_name (i := 12) scLawTell.nd rfl (Or.inl rfl))) (fun _ _ _ _ _ => pts_nil) (fun _ _ _ _ _ => (pe_tup (pa_cons pe_str (pa_cons (pe_ix (b_ixT K) (pv 6) pe_int (fun _ _ => rfl)) (pa_cons (pv 12) (pa_cons (pe_op k_addT pe_str (pv 7)) (pa_cons (pe_tup (pa_cons pe_str (pa_cons pe_int pa_nil))) (pa_cons pe_str pa_nil))))))))) pa_nil))) (pss_cons (ps_set (i := 11) scLawTell.nd rfl (Or.inl rfl) (pe_op op_catA (pv 9) (pe_h0 C__law_tell (hr.mono (by omega)) (pa_cons (pv 0) (pa_cons (pe_ix ix_tup (pv 6) pe_int (fun _ _ => rfl)) (pa_cons (pv 2) (pa_cons (pv 3) (pa_cons (pv 4) pa_nil)))))))) (pss_one (ps_if (pt_cmpR op_eq (pe_ix ix_tup (pv 6) pe_int (fun _ _ => rfl)) pe_str (nomark _)) (pss_one (ps_expr (pe_bm PySem.F.plainAttrs_list PySem.F.slot_list_append PySem.F.type_list_append mt_append (pv 5) (pa_cons (pe_op op_catA (pe_slice sl_tupA (pv 6) po_none (po_some pe_int)) (pe_tup (pa_cons (pv 11) (pa_cons (pe_op op_catA (pv 10) (pe_h0 C__law_tell (hr.mono (by omega)) (pa_cons (pv 0) (pa_cons (pe_ix ix_tup (pv 6) pe_int (fun _ _ => rfl)) (pa_cons (pv 2) (pa_cons (pv 3) (pa_cons (pv 4) pa_nil))))))) pa_nil)))) pa_nil)))) (pss_cons (ps_expr (pe_bm PySem.F.plainAttrs_list PySem.F.slot_list_append PySem.F.type_list_append mt_append (pv 5) (pa_cons (pe_op op_catA (pe_slice sl_tupA (pv 6) po_none (po_some pe_int)) (pe_tup (pa_cons (pv 11) pa_nil))) pa_nil))) (pss_one (ps_set (i := 5) scLawTell.nd rfl (Or.inl rfl) (pe_op op_cat (pv 5) (pe_callTy k_lst (by rfl) T.list (by decide +kernel) (pa_cons (pv 10) pa_nil)))))))))))))) (pss_one (ps_expr (pe_bm PySem.F.plainAttrs_list PySem.F.slot_list_append PySem.F.type_list_append mt_append (pv 5) (pa_cons (pv 6) pa_nil))))))) (pss_one (ps_ret (pe_callTy k_tup (by rfl) T.tuple (by decide +kernel) (pa_cons (pv 5) pa_nil)))))), ?_⟩
    wtm_at "kk"
    refine g_st (σ' := [some (.ref e), some (.ref ab), some (.int o), some (.ref lo), some (.ref d), none, none, none, none, none, none, none, none]) rfl ?_
    wtm_at "go"
    rename_i l0 H1 nn0 f1 h0
    refine KForT.mk (xs := xs) (fun i σ H' => ∃ lr x6 x7 x8 x9 x10 x11 x12 b' ol', σ = [some (.ref e), some (.ref ab), some (.int o), some (.ref lo), some (.ref d), some (.ref lr), x6, x7, x8, x9, x10, x11, x12] ∧ H lr = none ∧ LI [d, lo] H lr (encB b') H' ∧ Tape H' d c ∧ H' lo = some (.lst ol') ∧ ol'.length ≤ ol.length + szB (b.take i) ∧ gB Es [] b' ∧ dpB b' ≤ dpB b ∧ szB b' ≤ 13 * szB (b.take i))
      (fun i σ H' _ h => by obtain ⟨_, _, _, _, _, _, _, _, _, _, _, _, h, _⟩ := h; exact h.fr.tupS hb) ⟨l0, none, none, none, none, none, none, none, [], ol, rfl, nn0, .new f1.any h0, hT0.frm f1, f1.get0 hlo0, Nat.le_add_right _ _, (fun t ht => nomatch ht), Nat.zero_le _, Nat.zero_le _⟩ (fun i x σ H' hx h => ?_) (fun σ H' h => ?_)
    · obtain ⟨lr, x6, x7, x8, x9, x10, x11, x12, b', ol', rfl, n0, hL, hT, hlo, hol, hgb, hdb, hzb⟩ := h
      have fH := hL.fr
      obtain ⟨sm, hs, dS⟩ := (dX.frm fH).stm hx
      have hsm := List.mem_of_getElem? hs
      have gB1 : sm ∈ b → gB Es [] [sm] := fun hsm t ht => by
        simp only [allB, List.append_nil] at ht
        exact hg t (all_mem hsm t ht)
      have hds := dp_mem hsm
      have hzs := sz_mem hsm
      have hzt : szB (b.take i) + sm.sz ≤ szB b := by
        have := szB_take b (i + 1)
        rw [take_snoc hs, szB_snoc] at this
        exact this
      have hlrd : lr ≠ d := fun z => by rw [z, hd0] at n0; cases n0
      have hlrlo : lr ≠ lo := fun z => by rw [z, hlo0] at n0; cases n0
      have hlrc : lr ≠ c := (hT0.ne n0).2
      have hlr : lr ∉ [d, lo] := by simp [hlrd, hlrlo]
      have heH := fH.tupS he
      obtain ⟨us, hu, du⟩ := hL.at_
      have hul : us.length ≤ 260000 := by
        rw [du.encLen]
        have := len_le_szB b'
        omega
      cases sm with
      | msg f t l v w =>
        have dS0 := dS
        obtain ⟨b1, x0, x1, x2, x3, x4, x5, rfl, hb1, d0, d1, d2, d3, d4, d5⟩ := D.t6 dS0
        cases d0
        wtm_at "go"
        rename_i pL H2 nL fL hLst
        refine g_inL hLst rfl rfl ?_
        rw [show inV (.str "message") [.str "if", .str "while"] = false from by decide +kernel]
        have fLS : Frm [d, lo] H' H2 := fL.any
        wtm_at "go"
        refine g_app (fL.get0 hu) (by omega) ?_
        exact ⟨lr, _, _, _, _, _, _, _, b' ++ [_], ol', rfl, n0, by rw [encB_app]; exact (hL.frm fL).app n0 (fL.get0 hu) (dS.frm fL), (hT.frm fL).upd hlrd hlrc, by rw [upd_ne (Ne.symm hlrlo)]; exact fL.get0 hlo, by rw [take_snoc hs, szB_snoc]; omega, hgb.snoc (gB1 hsm), by rw [dpB_append]; simp only [dpB]; omega, by rw [take_snoc hs, szB_snoc, szB_snoc]; omega⟩
      | set a w v =>
        have dS0 := dS
        obtain ⟨b1, x0, x1, x2, x3, rfl, hb1, d0, d1, d2, d3⟩ := D.t4 dS0
        cases d0
        wtm_at "go"
        rename_i pL H2 nL fL hLst
        refine g_inL hLst rfl rfl ?_
        rw [show inV (.str "set") [.str "if", .str "while"] = false from by decide +kernel]
        have fLS : Frm [d, lo] H' H2 := fL.any
        wtm_at "go"
        refine g_app (fL.get0 hu) (by omega) ?_
        exact ⟨lr, _, _, _, _, _, _, _, b' ++ [_], ol', rfl, n0, by rw [encB_app]; exact (hL.frm fL).app n0 (fL.get0 hu) (dS.frm fL), (hT.frm fL).upd hlrd hlrc, by rw [upd_ne (Ne.symm hlrlo)]; exact fL.get0 hlo, by rw [take_snoc hs, szB_snoc]; omega, hgb.snoc (gB1 hsm), by rw [dpB_append]; simp only [dpB]; omega, by rw [take_snoc hs, szB_snoc, szB_snoc]; omega⟩
      | ask a w =>
        have dS0 := dS
        obtain ⟨b1, x0, x1, x2, rfl, hb1, d0, d1, d2⟩ := D.t3 dS0
        cases d0
        wtm_at "go"
        rename_i pL H2 nL fL hLst
        refine g_inL hLst rfl rfl ?_
        rw [show inV (.str "ask") [.str "if", .str "while"] = false from by decide +kernel]
        have fLS : Frm [d, lo] H' H2 := fL.any
        wtm_at "go"
        refine g_app (fL.get0 hu) (by omega) ?_
        exact ⟨lr, _, _, _, _, _, _, _, b' ++ [_], ol', rfl, n0, by rw [encB_app]; exact (hL.frm fL).app n0 (fL.get0 hu) (dS.frm fL), (hT.frm fL).upd hlrd hlrc, by rw [upd_ne (Ne.symm hlrlo)]; exact fL.get0 hlo, by rw [take_snoc hs, szB_snoc]; omega, hgb.snoc (gB1 hsm), by rw [dpB_append]; simp only [dpB]; omega, by rw [take_snoc hs, szB_snoc, szB_snoc]; omega⟩
      | call a w =>
        have dS0 := dS
        obtain ⟨b1, x0, x1, x2, rfl, hb1, d0, d1, d2⟩ := D.t3 dS0
        cases d0
        wtm_at "go"
        rename_i pL H2 nL fL hLst
        refine g_inL hLst rfl rfl ?_
        rw [show inV (.str "call") [.str "if", .str "while"] = false from by decide +kernel]
        have fLS : Frm [d, lo] H' H2 := fL.any
        wtm_at "go"
        refine g_app (fL.get0 hu) (by omega) ?_
        exact ⟨lr, _, _, _, _, _, _, _, b' ++ [_], ol', rfl, n0, by rw [encB_app]; exact (hL.frm fL).app n0 (fL.get0 hu) (dS.frm fL), (hT.frm fL).upd hlrd hlrc, by rw [upd_ne (Ne.symm hlrlo)]; exact fL.get0 hlo, by rw [take_snoc hs, szB_snoc]; omega, hgb.snoc (gB1 hsm), by rw [dpB_append]; simp only [dpB]; omega, by rw [take_snoc hs, szB_snoc, szB_snoc]; omega⟩
      | ite ev v y n =>
        have dS0 := dS
        have gs := (gB1 hsm).at_ List.mem_cons_self
        obtain ⟨gev, gv⟩ := gs
        obtain ⟨b1, x0, x1, x2, x3, x4, rfl, hb1, d0, d1, d2, d3, d4⟩ := D.t5 dS0
        cases d0
        cases d1
        have m1 : y ∈ inn (.ite ev v y n) := by simp [inn]
        have z1 := dp_inn m1
        have s1 := sz_innM m1
        have m2 : n ∈ inn (.ite ev v y n) := by simp [inn]
        have z2 := dp_inn m2
        have s12 : (Stm.ite ev v y n).sz = 1 + szB y + szB n := rfl
        have p12 : (Stm.ite ev v y n).dp = max (dpB y) (dpB n) + 1 := rfl
        wtm_at "go"
        rename_i pL H2 nL fL hLst
        refine g_inL hLst rfl rfl ?_
        rw [show inV (.str "if") [.str "if", .str "while"] = true from by decide +kernel]
        wtm_at "go"
        refine to2 ⟨d, c, 8, rfl, rfl, by decide, by decide, hT.frm fL, fun r H3 hr f3 hT3 => ?_⟩
        have f03 : Frm [d, lo] H' H3 := fL.any.trans (f3.mono (by simp))
        have hlo3 : H3 lo = some (.lst ol') := f3.at1 hlod (fL.get0 hlo)
        have hu3 : H3 lr = some (.lst us) := f3.at1 hlrd (fL.get0 hu)
        wtm_at "go"
        refine g_ite (fun zz => ?_) fun zz => ?_
        · have hb3 := f03.tupS hb1
          have he3 := f03.tupS heH
          wtm_at "go"
          refine g_app hlo3 (by omega) ?_
          have f4 : Frm [d, lo] H3 (upd H3 lo (.lst (ol' ++ [.ref b1]))) := Frm.mut (by simp) hlo3 nt_lst
          have hT4 : Tape (upd H3 lo (.lst (ol' ++ [.ref b1]))) d c := hT3.upd hlod hloc
          have hlo4 : upd H3 lo (.lst (ol' ++ [.ref b1])) lo = some (.lst (ol' ++ [.ref b1])) := upd_same
          generalize upd H3 lo (.lst (ol' ++ [.ref b1])) = H4 at f4 hT4 hlo4 ⊢
          have f04 := f03.trans f4
          have hb4 := f04.tupS hb1
          have he4 := f04.tupS heH
          wtm_at "go"
          rw [List.length_append, List.length_singleton]
          refine ⟨((ol'.length + 1 : Nat) : Int), rfl, ?_, ?_⟩
          · exact log_small (by omega)
          have hylg := nat_len (ol'.length + 1)
          generalize htg : ((toString ((ol'.length + 1 : Nat) : Int) : String) : Str) = tg
          have htl : tg.length ≤ 200000 := by rw [← htg, ofString_len]; omega
          have hto : strOk tg = true := by rw [← htg]; exact ofString_ok _
          have hyly : ("y" : Str).length = 1 := by decide +kernel
          have hyln : ("n" : Str).length = 1 := by decide +kernel
          wtm_at "go"
          refine KLc.mk (walk_tup (xs := Es.map V.str)) fun Dr hD => ⟨fun i H' => LI [] H4 Dr (((Es.take i).filter fun z => !decide (z = ev)).map PyData.str) H', .new (Frm.new hD) upd_same, fun i H' _ h => SqT.of (h.fr.get0 he4), fun i3 x3' H5 H6 hi h yy => ?_, fun H5 hLo => ?_⟩
          · obtain ⟨rfl, hy⟩ := yy
            obtain ⟨nm, hnm, rfl⟩ := getMapStr hy
            obtain ⟨ws, hw, dw⟩ := h.at_
            have hwl : ws.length ≤ 6 := by
              rw [dw.len, List.length_map]
              have := List.length_filter_le (fun z => !decide (z = ev)) (Es.take i3)
              have := EO.l6
              rw [List.length_take] at *
              omega
            have hb5 := h.fr.get0 hb4
            wtm_at "wi"
            wtm_at "go"
            rw [decSt]
            refine g_tst (fun zz => ?_) fun zz => ?_
            · wtm_at "go"
              refine g_acc hw (by omega) ?_
              show LI [] H4 Dr (((Es.take (i3 + 1)).filter fun z => !decide (z = ev)).map PyData.str) _
              have ef : ([nm].filter fun z => !decide (z = ev)) = [nm] := by rw [List.filter_cons, if_pos zz]; rfl
              rw [take_snoc hnm, List.filter_append, ef, List.map_append]
              exact h.app hD hw (.str _)
            · show LI [] H4 Dr (((Es.take (i3 + 1)).filter fun z => !decide (z = ev)).map PyData.str) _
              have ef : ([nm].filter fun z => !decide (z = ev)) = [] := by rw [List.filter_cons, if_neg (by rw [zz]; decide)]; rfl
              rw [take_snoc hnm, List.filter_append, ef, List.append_nil]
              exact h
          rw [List.length_map, List.take_length] at hLo
          have hom : ∀ z ∈ Es.filter (fun z => !decide (z = ev)), z ∈ Es := fun z hz => (List.mem_filter.mp hz).1
          have hol : (Es.filter fun z => !decide (z = ev)).length ≤ 6 := Nat.le_trans (List.length_filter_le _ _) EO.l6
          generalize (Es.filter fun z => !decide (z = ev)) = OS at hLo hom hol
          obtain ⟨ws, hOSy, dw⟩ := hLo.at_
          obtain rfl := dw.strs
          have f5 := hLo.fr
          have hby := f5.get0 hb4
          wtm_at "go"
          refine KLc.mapL (xs := OS.map V.str) hOSy ((OS.map fun z => Stm.msg ev z (("y" : Str) ++ tg) (.num 0) "t").map encS) (by simp) (by rw [List.length_map]; omega) (fun i2 x2 Hc Dr2 N2 d2' hx2 hd2 fc kc => ?_) (fun ly Hy1 ysy ny fy1 hy1 dly => ?_)
          · obtain ⟨z, hz, rfl⟩ := getMapStr hx2
            rw [List.getElem?_map, List.getElem?_map, hz] at hd2
            obtain rfl := Option.some.inj hd2
            have hb8 := fc.get0 hby
            wtm_at "wi"
            wtm_at "go"
            refine g_addT (by rw [hyly]; omega) ?_
            wtm_at "go"
            rename_i pa1 Ha1 na1 fa1 ha1 pa2 Ha2 na2 fa2 ha2
            exact kc _ _ (fa1.trans fa2) (.tup ha2 (.cons (.str _) (.cons (.str _) (.cons (.str _) (.cons (.str _) (.cons (.tup (fa2.get0 ha1) (.cons (.str _) (.cons (.int _) .nil))) (.cons (.str _) .nil)))))))
          wtm_at "go"
          rename_i py Hy fy2 hy
          have dy : D Hy (.ref py) (encBT (OS.map fun z => Stm.msg ev z (("y" : Str) ++ tg) (.num 0) "t")) := by
            refine .tup hy ?_
            rw [encB_map]
            exact dly.frm fy2
          have fy := fy1.trans fy2
          have hOSn := fy.get0 hOSy
          have hbn := fy.get0 hby
          wtm_at "go"
          refine KLc.mapL (xs := OS.map V.str) hOSn ((OS.map fun z => Stm.msg ev z (("n" : Str) ++ tg) (.num 0) "t").map encS) (by simp) (by rw [List.length_map]; omega) (fun i2 x2 Hc Dr2 N2 d2' hx2 hd2 fc kc => ?_) (fun ln Hn1 ysn nn fn1 hn1 dln => ?_)
          · obtain ⟨z, hz, rfl⟩ := getMapStr hx2
            rw [List.getElem?_map, List.getElem?_map, hz] at hd2
            obtain rfl := Option.some.inj hd2
            have hb8 := fc.get0 hbn
            wtm_at "wi"
            wtm_at "go"
            refine g_addT (by rw [hyln]; omega) ?_
            wtm_at "go"
            rename_i pa1 Ha1 na1 fa1 ha1 pa2 Ha2 na2 fa2 ha2
            exact kc _ _ (fa1.trans fa2) (.tup ha2 (.cons (.str _) (.cons (.str _) (.cons (.str _) (.cons (.str _) (.cons (.tup (fa2.get0 ha1) (.cons (.str _) (.cons (.int _) .nil))) (.cons (.str _) .nil)))))))
          wtm_at "go"
          rename_i pn Hn fn2 hn
          have dn : D Hn (.ref pn) (encBT (OS.map fun z => Stm.msg ev z (("n" : Str) ++ tg) (.num 0) "t")) := by
            refine .tup hn ?_
            rw [encB_map]
            exact dln.frm fn2
          have fn := fn1.trans fn2
          have dy' := dy.frm fn
          have f47 : Frm [] H4 Hn := (f5.trans fy).trans fn
          have hlo7 := f47.get0 hlo4
          have hT7 := hT4.frm f47
          have he7 := f47.get0 he4
          have hb7 := f47.get0 hb4
          have f07 : Frm [d, lo] H' Hn := f04.trans f47.any
          have gmy := msgs_ok (tg := ("y" : Str) ++ tg) (ev := ev) gev hom (app_ok (by decide +kernel) hto)
          have gmn := msgs_ok (tg := ("n" : Str) ++ tg) (ev := ev) gev hom (app_ok (by decide +kernel) hto)
          have zmy := msgs_sz OS ev (("y" : Str) ++ tg)
          have zmn := msgs_sz OS ev (("n" : Str) ++ tg)
          have pmy := msgs_dp OS ev (("y" : Str) ++ tg)
          have pmn := msgs_dp OS ev (("n" : Str) ++ tg)
          generalize (OS.map fun z => Stm.msg ev z (("y" : Str) ++ tg) (.num 0) "t") = MY at dy' gmy zmy pmy
          generalize (OS.map fun z => Stm.msg ev z (("n" : Str) ++ tg) (.num 0) "t") = MN at dn gmn zmn pmn
          obtain ⟨ay, vy, ey, hay, dvy⟩ := dy'.tupE
          cases ey
          obtain ⟨an, vn, en, han, dvn⟩ := dn.tupE
          cases en
          have lvy := dvy.encLen
          have lvn := dvn.encLen
          have lmy := len_le_szB MY
          have lmn := len_le_szB MN
          wtm_at "go"
          refine to5 ⟨d, c, e, lo, o, Es, y, ol' ++ [.ref b1], rfl, he7, EO, d3.frm f07, hg.inn hsm m1, by omega, by omega, rfl, rfl, hlo7, by rw [List.length_append, List.length_singleton]; omega, hlod, hloc, rfl, hT7, fun ve H8 y' ol8 f8 hT8 hlo8 hol8 de gy py sy => ?_⟩
          rw [List.length_append, List.length_singleton] at hol8
          obtain ⟨ae, vse, rfl, hae, dve⟩ := de.tupE
          have lve := dve.encLen
          have ly' := len_le_szB y'
          wtm_at "go"
          refine g_catT (f8.tupS hay) hae (by omega) (fun pi H9 f9 h9 => ?_)
          have f09 : Frm [d, lo] H' H9 := (f07.trans f8).trans f9.any
          have hb9 := f09.tupS hb1
          have dIn : D H9 (.ref pi) (encBT (MY ++ y')) := by
            refine .tup h9 ?_
            rw [encB_app]
            exact ((dvy.frm f8).frm f9).app (dve.frm f9)
          have gIn : gB Es [] (MY ++ y') := gB_app gmy gy
          have hu9 : H9 lr = some (.lst us) := f09.keep _ _ hlr hu
          have hlo9 := f9.get0 hlo8
          have hT9 := hT8.frm f9
          wtm_at "go"
          rename_i pT HT fT hTT
          have f9T : Frm [] H9 HT := fT
          refine to5 ⟨d, c, e, lo, o, Es, n, ol8, rfl, f9T.get0 (f09.tupS heH), EO, (d4.frm f09).frm f9T, hg.inn hsm m2, by omega, by omega, rfl, rfl, f9T.get0 hlo9, by omega, hlod, hloc, rfl, hT9.frm f9T, fun vn2 HA n' olA fA hTA hloA holA dn2 gn pn' sn => ?_⟩
          obtain ⟨an2, vsn, rfl, han2, dvn2⟩ := dn2.tupE
          have lvn2 := dvn2.encLen
          have ln' := len_le_szB n'
          wtm_at "go"
          refine g_catT ((((f8.trans f9.any).trans f9T.any).trans fA).tupS han) han2 (by omega) (fun pj HB fB hB => ?_)
          wtm_at "go"
          rename_i pK HK nK fK hK pZ HZ fZ hZ
          have f7A : Frm [d, lo] Hn HA := ((f8.trans f9.any).trans f9T.any).trans fA
          have f9Z : Frm [d, lo] H9 HZ := (((f9T.any.trans fA).trans fB.any).trans fK.any).trans fZ.any
          have f0Z := f09.trans f9Z
          have huZ : HZ lr = some (.lst us) := f0Z.keep _ _ hlr hu
          have hloZ : HZ lo = some (.lst olA) := fZ.get0 (fK.get0 (fB.get0 hloA))
          have hTZ := ((hTA.frm fB).frm fK).frm fZ
          refine g_app huZ (by omega) ?_
          have dS' : D HZ (.ref pZ) (encS (.ite ev v (MY ++ y') (MN ++ n'))) := by
            refine .tup hZ (.cons (.str _) (.cons (.str _) (.cons (d2.frm f0Z) (.cons (dIn.frm f9Z) (.cons ?_ .nil)))))
            refine .tup (fZ.get0 (fK.get0 hB)) ?_
            rw [encB_app]
            exact ((((dvn.frm f7A).frm fB).frm fK).frm fZ).app (((dvn2.frm fB).frm fK).frm fZ)
          have gS' : gB Es [] [Stm.ite ev v (MY ++ y') (MN ++ n')] := gB.node ⟨gev, gv⟩ fun cc hcc => by
            simp only [inn, List.mem_cons, List.not_mem_nil, or_false] at hcc
            rcases hcc with rfl | rfl
            · exact gIn
            · exact gB_app gmn gn
          have zS : (Stm.ite ev v (MY ++ y') (MN ++ n')).sz = 1 + (szB MY + szB y') + (szB MN + szB n') := by simp only [Stm.sz, szB_append]
          have pS : (Stm.ite ev v (MY ++ y') (MN ++ n')).dp = max (max (dpB MY) (dpB y')) (max (dpB MN) (dpB n')) + 1 := by simp only [Stm.dp, dpB_append]
          exact ⟨lr, _, _, _, _, _, _, _, b' ++ [_], olA, rfl, n0, by rw [encB_app]; exact (hL.frmS hlr f0Z).app n0 huZ dS', hTZ.upd hlrd hlrc, by rw [upd_ne (Ne.symm hlrlo)]; exact hloZ, by rw [take_snoc hs, szB_snoc]; omega, hgb.snoc gS', by rw [dpB_append]; simp only [dpB]; omega, by rw [take_snoc hs, szB_snoc, szB_snoc]; omega⟩
        · wtm_at "go"
          refine g_app hu3 (by omega) ?_
          exact ⟨lr, _, _, _, _, _, _, _, b' ++ [_], ol', rfl, n0, by rw [encB_app]; exact (hL.frmS hlr f03).app n0 hu3 (dS.frm f03), hT3.upd hlrd hlrc, by rw [upd_ne (Ne.symm hlrlo)]; exact hlo3, by rw [take_snoc hs, szB_snoc]; omega, hgb.snoc (gB1 hsm), by rw [dpB_append]; simp only [dpB]; omega, by rw [take_snoc hs, szB_snoc, szB_snoc]; omega⟩
      | whl ev v y =>
        have dS0 := dS
        have gs := (gB1 hsm).at_ List.mem_cons_self
        obtain ⟨gev, gv⟩ := gs
        obtain ⟨b1, x0, x1, x2, x3, rfl, hb1, d0, d1, d2, d3⟩ := D.t4 dS0
        cases d0
        cases d1
        have m1 : y ∈ inn (.whl ev v y) := by simp [inn]
        have z1 := dp_inn m1
        have s1 := sz_innM m1
        have s12 : (Stm.whl ev v y).sz = 1 + szB y := rfl
        have p12 : (Stm.whl ev v y).dp = dpB y + 1 := rfl
        wtm_at "go"
        rename_i pL H2 nL fL hLst
        refine g_inL hLst rfl rfl ?_
        rw [show inV (.str "while") [.str "if", .str "while"] = true from by decide +kernel]
        wtm_at "go"
        refine to2 ⟨d, c, 8, rfl, rfl, by decide, by decide, hT.frm fL, fun r H3 hr f3 hT3 => ?_⟩
        have f03 : Frm [d, lo] H' H3 := fL.any.trans (f3.mono (by simp))
        have hlo3 : H3 lo = some (.lst ol') := f3.at1 hlod (fL.get0 hlo)
        have hu3 : H3 lr = some (.lst us) := f3.at1 hlrd (fL.get0 hu)
        wtm_at "go"
        refine g_ite (fun zz => ?_) fun zz => ?_
        · have hb3 := f03.tupS hb1
          have he3 := f03.tupS heH
          wtm_at "go"
          refine g_app hlo3 (by omega) ?_
          have f4 : Frm [d, lo] H3 (upd H3 lo (.lst (ol' ++ [.ref b1]))) := Frm.mut (by simp) hlo3 nt_lst
          have hT4 : Tape (upd H3 lo (.lst (ol' ++ [.ref b1]))) d c := hT3.upd hlod hloc
          have hlo4 : upd H3 lo (.lst (ol' ++ [.ref b1])) lo = some (.lst (ol' ++ [.ref b1])) := upd_same
          generalize upd H3 lo (.lst (ol' ++ [.ref b1])) = H4 at f4 hT4 hlo4 ⊢
          have f04 := f03.trans f4
          have hb4 := f04.tupS hb1
          have he4 := f04.tupS heH
          wtm_at "go"
          rw [List.length_append, List.length_singleton]
          refine ⟨((ol'.length + 1 : Nat) : Int), rfl, ?_, ?_⟩
          · exact log_small (by omega)
          have hylg := nat_len (ol'.length + 1)
          generalize htg : ((toString ((ol'.length + 1 : Nat) : Int) : String) : Str) = tg
          have htl : tg.length ≤ 200000 := by rw [← htg, ofString_len]; omega
          have hto : strOk tg = true := by rw [← htg]; exact ofString_ok _
          have hyly : ("y" : Str).length = 1 := by decide +kernel
          have hyln : ("n" : Str).length = 1 := by decide +kernel
          wtm_at "go"
          refine KLc.mk (walk_tup (xs := Es.map V.str)) fun Dr hD => ⟨fun i H' => LI [] H4 Dr (((Es.take i).filter fun z => !decide (z = ev)).map PyData.str) H', .new (Frm.new hD) upd_same, fun i H' _ h => SqT.of (h.fr.get0 he4), fun i3 x3' H5 H6 hi h yy => ?_, fun H5 hLo => ?_⟩
          · obtain ⟨rfl, hy⟩ := yy
            obtain ⟨nm, hnm, rfl⟩ := getMapStr hy
            obtain ⟨ws, hw, dw⟩ := h.at_
            have hwl : ws.length ≤ 6 := by
              rw [dw.len, List.length_map]
              have := List.length_filter_le (fun z => !decide (z = ev)) (Es.take i3)
              have := EO.l6
              rw [List.length_take] at *
              omega
            have hb5 := h.fr.get0 hb4
            wtm_at "wi"
            wtm_at "go"
            rw [decSt]
            refine g_tst (fun zz => ?_) fun zz => ?_
            · wtm_at "go"
              refine g_acc hw (by omega) ?_
              show LI [] H4 Dr (((Es.take (i3 + 1)).filter fun z => !decide (z = ev)).map PyData.str) _
              have ef : ([nm].filter fun z => !decide (z = ev)) = [nm] := by rw [List.filter_cons, if_pos zz]; rfl
              rw [take_snoc hnm, List.filter_append, ef, List.map_append]
              exact h.app hD hw (.str _)
            · show LI [] H4 Dr (((Es.take (i3 + 1)).filter fun z => !decide (z = ev)).map PyData.str) _
              have ef : ([nm].filter fun z => !decide (z = ev)) = [] := by rw [List.filter_cons, if_neg (by rw [zz]; decide)]; rfl
              rw [take_snoc hnm, List.filter_append, ef, List.append_nil]
              exact h
          rw [List.length_map, List.take_length] at hLo
          have hom : ∀ z ∈ Es.filter (fun z => !decide (z = ev)), z ∈ Es := fun z hz => (List.mem_filter.mp hz).1
          have hol : (Es.filter fun z => !decide (z = ev)).length ≤ 6 := Nat.le_trans (List.length_filter_le _ _) EO.l6
          generalize (Es.filter fun z => !decide (z = ev)) = OS at hLo hom hol
          obtain ⟨ws, hOSy, dw⟩ := hLo.at_
          obtain rfl := dw.strs
          have f5 := hLo.fr
          have hby := f5.get0 hb4
          wtm_at "go"
          refine KLc.mapL (xs := OS.map V.str) hOSy ((OS.map fun z => Stm.msg ev z (("y" : Str) ++ tg) (.num 0) "t").map encS) (by simp) (by rw [List.length_map]; omega) (fun i2 x2 Hc Dr2 N2 d2' hx2 hd2 fc kc => ?_) (fun ly Hy1 ysy ny fy1 hy1 dly => ?_)
          · obtain ⟨z, hz, rfl⟩ := getMapStr hx2
            rw [List.getElem?_map, List.getElem?_map, hz] at hd2
            obtain rfl := Option.some.inj hd2
            have hb8 := fc.get0 hby
            wtm_at "wi"
            wtm_at "go"
            refine g_addT (by rw [hyly]; omega) ?_
            wtm_at "go"
            rename_i pa1 Ha1 na1 fa1 ha1 pa2 Ha2 na2 fa2 ha2
            exact kc _ _ (fa1.trans fa2) (.tup ha2 (.cons (.str _) (.cons (.str _) (.cons (.str _) (.cons (.str _) (.cons (.tup (fa2.get0 ha1) (.cons (.str _) (.cons (.int _) .nil))) (.cons (.str _) .nil)))))))
          wtm_at "go"
          rename_i py Hy fy2 hy
          have dy : D Hy (.ref py) (encBT (OS.map fun z => Stm.msg ev z (("y" : Str) ++ tg) (.num 0) "t")) := by
            refine .tup hy ?_
            rw [encB_map]
            exact dly.frm fy2
          have fy := fy1.trans fy2
          have hOSn := fy.get0 hOSy
          have hbn := fy.get0 hby
          wtm_at "go"
          refine KLc.mapL (xs := OS.map V.str) hOSn ((OS.map fun z => Stm.msg ev z (("n" : Str) ++ tg) (.num 0) "t").map encS) (by simp) (by rw [List.length_map]; omega) (fun i2 x2 Hc Dr2 N2 d2' hx2 hd2 fc kc => ?_) (fun ln Hn1 ysn nn fn1 hn1 dln => ?_)
          · obtain ⟨z, hz, rfl⟩ := getMapStr hx2
            rw [List.getElem?_map, List.getElem?_map, hz] at hd2
            obtain rfl := Option.some.inj hd2
            have hb8 := fc.get0 hbn
            wtm_at "wi"
            wtm_at "go"
            refine g_addT (by rw [hyln]; omega) ?_
            wtm_at "go"
            rename_i pa1 Ha1 na1 fa1 ha1 pa2 Ha2 na2 fa2 ha2
            exact kc _ _ (fa1.trans fa2) (.tup ha2 (.cons (.str _) (.cons (.str _) (.cons (.str _) (.cons (.str _) (.cons (.tup (fa2.get0 ha1) (.cons (.str _) (.cons (.int _) .nil))) (.cons (.str _) .nil)))))))
          wtm_at "go"
          rename_i pn Hn fn2 hn
          have dn : D Hn (.ref pn) (encBT (OS.map fun z => Stm.msg ev z (("n" : Str) ++ tg) (.num 0) "t")) := by
            refine .tup hn ?_
            rw [encB_map]
            exact dln.frm fn2
          have fn := fn1.trans fn2
          have dy' := dy.frm fn
          have f47 : Frm [] H4 Hn := (f5.trans fy).trans fn
          have hlo7 := f47.get0 hlo4
          have hT7 := hT4.frm f47
          have he7 := f47.get0 he4
          have hb7 := f47.get0 hb4
          have f07 : Frm [d, lo] H' Hn := f04.trans f47.any
          have gmy := msgs_ok (tg := ("y" : Str) ++ tg) (ev := ev) gev hom (app_ok (by decide +kernel) hto)
          have gmn := msgs_ok (tg := ("n" : Str) ++ tg) (ev := ev) gev hom (app_ok (by decide +kernel) hto)
          have zmy := msgs_sz OS ev (("y" : Str) ++ tg)
          have zmn := msgs_sz OS ev (("n" : Str) ++ tg)
          have pmy := msgs_dp OS ev (("y" : Str) ++ tg)
          have pmn := msgs_dp OS ev (("n" : Str) ++ tg)
          generalize (OS.map fun z => Stm.msg ev z (("y" : Str) ++ tg) (.num 0) "t") = MY at dy' gmy zmy pmy
          generalize (OS.map fun z => Stm.msg ev z (("n" : Str) ++ tg) (.num 0) "t") = MN at dn gmn zmn pmn
          obtain ⟨ay, vy, ey, hay, dvy⟩ := dy'.tupE
          cases ey
          obtain ⟨an, vn, en, han, dvn⟩ := dn.tupE
          cases en
          have lvy := dvy.encLen
          have lvn := dvn.encLen
          have lmy := len_le_szB MY
          have lmn := len_le_szB MN
          wtm_at "go"
          refine to5 ⟨d, c, e, lo, o, Es, y, ol' ++ [.ref b1], rfl, he7, EO, d3.frm f07, hg.inn hsm m1, by omega, by omega, rfl, rfl, hlo7, by rw [List.length_append, List.length_singleton]; omega, hlod, hloc, rfl, hT7, fun ve H8 y' ol8 f8 hT8 hlo8 hol8 de gy py sy => ?_⟩
          rw [List.length_append, List.length_singleton] at hol8
          obtain ⟨ae, vse, rfl, hae, dve⟩ := de.tupE
          have lve := dve.encLen
          have ly' := len_le_szB y'
          wtm_at "go"
          refine g_catT (f8.tupS hay) hae (by omega) (fun pi H9 f9 h9 => ?_)
          have f09 : Frm [d, lo] H' H9 := (f07.trans f8).trans f9.any
          have hb9 := f09.tupS hb1
          have dIn : D H9 (.ref pi) (encBT (MY ++ y')) := by
            refine .tup h9 ?_
            rw [encB_app]
            exact ((dvy.frm f8).frm f9).app (dve.frm f9)
          have gIn : gB Es [] (MY ++ y') := gB_app gmy gy
          have hu9 : H9 lr = some (.lst us) := f09.keep _ _ hlr hu
          have hlo9 := f9.get0 hlo8
          have hT9 := hT8.frm f9
          wtm_at "go"
          rename_i pT HT fT hTT pK HK nK fK hK pZ HZ fZ hZ
          have f9Z : Frm [] H9 HZ := (fT.trans fK).trans fZ
          have f0Z := f09.trans f9Z.any
          have huZ : HZ lr = some (.lst us) := f0Z.keep _ _ hlr hu
          have hloZ : HZ lo = some (.lst ol8) := f9Z.get0 hlo9
          have hTZ := hT9.frm f9Z
          refine g_app huZ (by omega) ?_
          have dS' : D HZ (.ref pZ) (encS (.whl ev v (MY ++ y'))) := .tup hZ (.cons (.str _) (.cons (.str _) (.cons (d2.frm f0Z) (.cons (dIn.frm f9Z) .nil))))
          have gS' : gB Es [] [Stm.whl ev v (MY ++ y')] := gB.node ⟨gev, gv⟩ fun cc hcc => by
            simp only [inn, List.mem_cons, List.not_mem_nil, or_false] at hcc
            subst hcc
            exact gIn
          have zS : (Stm.whl ev v (MY ++ y')).sz = 1 + (szB MY + szB y') := by simp only [Stm.sz, szB_append]
          have pS : (Stm.whl ev v (MY ++ y')).dp = max (dpB MY) (dpB y') + 1 := by simp only [Stm.dp, dpB_append]
          have hLZ := (hL.frmS hlr f0Z).app n0 huZ dS'
          have fM : Frm [lr] HZ (upd HZ lr (.lst (us ++ [.ref pZ]))) := Frm.mut List.mem_cons_self huZ nt_lst
          have huM : upd HZ lr (.lst (us ++ [.ref pZ])) lr = some (.lst (us ++ [.ref pZ])) := upd_same
          have hTM : Tape (upd HZ lr (.lst (us ++ [.ref pZ]))) d c := hTZ.upd hlrd hlrc
          have hloM : upd HZ lr (.lst (us ++ [.ref pZ])) lo = some (.lst ol8) := by rw [upd_ne (Ne.symm hlrlo)]; exact hloZ
          have hanM := fM.tupS (f9Z.tupS (f9.tupS (f8.tupS han)))
          have dvnM := ((((dvn.frm f8).frm f9).frm f9Z).frm fM)
          generalize upd HZ lr (.lst (us ++ [.ref pZ])) = HM at hLZ fM huM hTM hloM hanM dvnM ⊢
          wtm_at "go"
          refine g_lstT hanM (fun l6 HP nP fP hP => ?_)
          wtm_at "go"
          refine g_catL (fP.get0 huM) hP (by rw [List.length_append, List.length_singleton]; omega) (fun l7 HQ nQ fQ hQ => ?_)
          wtm_at "go"
          have fMQ := fP.trans fQ
          have hlq := hLZ.frm fMQ
          have n7 : H l7 = none := hLZ.fr.back (by
            have q1 : HM l7 = none := fP.back0 nQ
            intro z
            rcases List.mem_cons.mp z with z | z
            · obtain ⟨kk1, q2⟩ := hTM.dK
              rw [z, q2] at q1; cases q1
            · rw [List.mem_singleton.mp z, hloM] at q1; cases q1) (fP.back0 nQ)
          refine ⟨l7, _, _, _, _, _, _, _, (b' ++ [Stm.whl ev v (MY ++ y')]) ++ MN, ol8, rfl, n7, ⟨hlq.fr, _, hQ, ?_⟩, hTM.frm fMQ, fMQ.get0 hloM, by rw [take_snoc hs, szB_snoc]; omega, gB_app (hgb.snoc gS') gmn, by rw [dpB_append, dpB_append]; simp only [dpB]; omega, by rw [take_snoc hs, szB_append, szB_snoc, szB_snoc]; omega⟩
          rw [encB_app, encB_app]
          exact ((hLZ.dl huM).frm fMQ).app (dvnM.frm fMQ)
        · wtm_at "go"
          refine g_app hu3 (by omega) ?_
          exact ⟨lr, _, _, _, _, _, _, _, b' ++ [_], ol', rfl, n0, by rw [encB_app]; exact (hL.frmS hlr f03).app n0 hu3 (dS.frm f03), hT3.upd hlrd hlrc, by rw [upd_ne (Ne.symm hlrlo)]; exact hlo3, by rw [take_snoc hs, szB_snoc]; omega, hgb.snoc (gB1 hsm), by rw [dpB_append]; simp only [dpB]; omega, by rw [take_snoc hs, szB_snoc, szB_snoc]; omega⟩
    · obtain ⟨lr, x6, x7, x8, x9, x10, x11, x12, b', ol', rfl, n0, hL, hT, hlo, hol, hgb, hdb, hzb⟩ := h
      rw [dX.encLen, List.take_length] at hol hzb
      obtain ⟨us, hu, du⟩ := hL.at_
      wtm_at "go"
      rename_i p H2 f2 h2
      exact q _ H2 b' ol' (hL.fr.trans f2.any) (hT.frm f2) (f2.get0 hlo) hol (.tup h2 (du.frm f2)) hgb hdb hzb
end

theorem gF.good {Es : List Str} {f : FS} (h : gF Es [] f) (ok : ∀ x ∈ Es, strOk x = true) : goodF f := by
  cases f with
  | msg f t l v x => exact ⟨ok _ h.1, ok _ h.2.1, h.2.2⟩
  | set e x v => exact ⟨ok _ h.1, h.2⟩
  | ask e x => exact ⟨ok _ h.1, h.2⟩
  | ite e v => exact ⟨ok _ h.1, h.2⟩
  | whl e v => exact ⟨ok _ h.1, h.2⟩
  | call p cs =>
    obtain ⟨⟨q, hq, _⟩, _⟩ := h
    cases hq
theorem Frm.drop {H H' H2 : Hp} {d lo : Addr} (f : Frm [d] H H') (n : H lo = none) (g : Frm [d, lo] H' H2) : Frm [d] H H2 :=
  ⟨fun a o ha e => g.keep a o (by
    intro z
    rcases List.mem_cons.mp z with z | z
    · exact ha (by rw [z]; exact List.mem_cons_self)
    · rw [List.mem_singleton.mp z, n] at e; cases e) (f.keep a o ha e), fun a xs e => g.tup a xs (f.tup a xs e)⟩
section
variable {P : Program} {w : World} {K : PySem.W.Frag} {mg : Str → Option Value} {base : Heap}
def often : List Int := [8, 8, 5, 0]
abbrev sLawClearTree : Stmt := top 60
theorem scLawClearTree : FnScope ["_law_tape_here", "_law_depth", "_law_most", "_law_tree_here", "_law_often"] ["_law_tape_here", "_law_depth", "_law_most"] (defScope sLawClearTree) := ⟨rfl, rfl, rfl, by decide +kernel, rfl, by decide +kernel, by decide +kernel⟩
def pClr (tp dp mo : V) (H : Hp) (Q : VK) (_ : XK) : Prop := ∃ (d c : Addr), tp = .ref d ∧ dp = .int (2 : Nat) ∧ mo = .int (5 : Nat) ∧ Tape H d c ∧ ∀ v H2 Es B, Frm [d] H H2 → Tape H2 d c → D H2 v (encT Es B) → EsOk Es → gB Es [] B → goodB B → dpB B ≤ 4 → szB B ≤ 200000 → Q v H2
theorem ok_clr (T : Tx K mg) (A : At K mg "_law_clear_tree" sLawClearTree ["_law_tape_here", "_law_depth", "_law_most"]) (C__law_take : Has P w K mg base CX0 "_law_take" ["_law_tape_here", "_law_many"] 1 (sp2 pTake))
    (C__law_tree : Has P w K mg base CX0 "_law_tree" ["_law_tape_here", "_law_depth", "_law_most"] 13 (sp3 pTreeG)) (C__law_play : Has P w K mg base CX0 "_law_play" ["_law_tree_here"] 32 (sp1 pPlay))
    (C__law_tell : Has P w K mg base CX0 "_law_tell" ["_law_ends_here", "_law_block_here", "_law_often", "_law_out", "_law_tape_here"] 10 (sp5 (pTell 8))) : Has P w K mg base CX0 "_law_clear_tree" ["_law_tape_here", "_law_depth", "_law_most"] 33 (sp3 pClr) := by
  refine has_mk A scLawClearTree (fun vs H Q E h => by obtain ⟨_, _, _, rfl, _⟩ := h; rfl) fun f cdv A outer s H vs Q E hr h => ?_
  obtain ⟨tp, dp, mo, rfl, d, c, rfl, rfl, rfl, hT, q⟩ := h
  refine ⟨_, (pss_cons (ps_set (i := 3) scLawClearTree.nd rfl (Or.inl rfl) (pe_h0 C__law_tree (hr.mono (by omega)) (pa_cons (pv 0) (pa_cons (pv 1) (pa_cons (pv 2) pa_nil))))) (pss_cons (ps_set (i := 4) scLawClearTree.nd rfl (Or.inl rfl) (pe_ix ix_list (pe_lst (pa_cons pe_int (pa_cons pe_int (pa_cons pe_int (pa_cons pe_int pa_nil))))) (pe_h0 C__law_take (hr.mono (by omega)) (pa_cons (pv 0) (pa_cons pe_int pa_nil))) (fun _ _ => rfl))) (pss_one (ps_ret (pe_tup (pa_cons (pe_ix ix_tup (pv 3) pe_int (fun _ _ => rfl)) (pa_cons (pe_tup pa_nil) (pa_cons (pe_h0 C__law_tell (hr.mono (by omega)) (pa_cons (pe_ix ix_tup (pv 3) pe_int (fun _ _ => rfl)) (pa_cons (pe_h0 C__law_play (hr.mono (by omega)) (pa_cons (pv 3) pa_nil)) (pa_cons (pv 4) (pa_cons (pe_lst pa_nil) (pa_cons (pv 0) pa_nil)))))) pa_nil)))))))), ?_⟩
  wtm_at "kk"
  refine g_st (σ' := [some (.ref d), some (.int (2 : Nat)), some (.int (5 : Nat)), none, none]) rfl ?_
  wtm_at "go"
  refine to3 ⟨d, c, 2, 5, rfl, rfl, rfl, by decide, by decide, hT, fun v H1 Es PS B f1 hT1 dv EO PO gB0 dp0 sz0 => ?_⟩
  have sz0 : szB B ≤ 105 := sz0
  obtain ⟨a, v0, v1, v2, rfl, ha, d0, d1, d2⟩ := D.t3 dv
  obtain ⟨e, es, rfl, he, des⟩ := d0.tupE
  obtain rfl := des.strs
  wtm_at "go"
  rename_i l0 H2 n2 f2 h2
  refine to2 ⟨d, c, 4, rfl, rfl, by decide, by decide, hT1.frm f2, fun r H3 hr f3 hT3 => ?_⟩
  obtain ⟨o, hox, mo⟩ := pick (l := often) hr
  have h3 : H3 l0 = some (.lst (often.map V.int)) := f3.at1 (hT1.ne n2).1 h2
  have f13 : Frm [d] H1 H3 := f2.any.trans f3
  have ha3 := f13.tupS ha
  have he3 := f13.tupS he
  wtm_at "go"
  refine g_ixL h3 (atI_nat (v := .int o) (by rw [List.getElem?_map, hox]; rfl)) ?_
  wtm_at "go"
  rename_i pE H4 nE fE hE
  have hpw : szB B * 10 ^ PS.length ≤ 10500 := by
    have h1 : 10 ^ PS.length ≤ 10 ^ 2 := Nat.pow_le_pow_right (by decide) PO.l
    have h2 : szB B * 10 ^ PS.length ≤ 105 * 10 ^ 2 := Nat.mul_le_mul sz0 h1
    omega
  have hpl := PO.l
  refine to1 ⟨Es, PS, B, (dv.frm f13).frm fE, EO, PO, gB0, by omega, by omega, fun vb H5 b' f5 db gb pb sb _ => ?_⟩
  wtm_at "go"
  rename_i lo H6 nlo f6 hlo
  have f36 : Frm [] H3 H6 := (fE.trans f5).trans f6
  have hT6 := hT3.frm f36
  have n5 : H5 lo = none := nlo
  have nT := (hT3.frm (fE.trans f5)).ne nlo
  have nH : H lo = none := f1.back (by simpa using nT.1) (f13.back (by simpa using nT.1) (fE.back0 (f5.back0 nlo)))
  have f06 : Frm [d] H H6 := (f1.trans f13).trans f36.any
  refine to5 ⟨d, c, e, lo, o, Es, b', [], rfl, f36.get0 he3, EO, db.frm f6, gb, by omega, by omega, rfl, rfl, hlo, by simp only [List.length_nil]; omega, nT.1, nT.2, rfl, hT6, fun vt H7 b2 ol f7 hT7 hlo7 hol dt gt pt st => ?_⟩
  wtm_at "go"
  rename_i p H8 n8 f8 h8
  have f07 := Frm.drop f06 nH f7
  refine q _ H8 Es b2 (f07.trans f8.any) (hT7.frm f8) (.tup h8 (.cons (.tup (f8.get0 (f7.tupS (f36.get0 he3))) DL.ofStrs) (.cons (.tup (f8.get0 (f7.tupS (f6.get0 (f5.get0 hE)))) .nil) (.cons (dt.frm f8) .nil)))) EO gt (fun s hs => (gt s hs).good EO.ok) (by omega) (by omega)
abbrev sLawTape : Stmt := top 44
theorem scLawTape : FnScope ["_law_script", "_law_cell", "_law_cells", "_law_seed"] ["_law_script"] (defScope sLawTape) := ⟨rfl, rfl, rfl, by decide +kernel, rfl, by decide +kernel, by decide +kernel⟩
def pTape (K : PySem.W.Frag) (sc : V) (H : Hp) (Q : VK) (_ : XK) : Prop := ∃ (a : Addr) (ns : List Int), sc = .ref a ∧ SqL K H a (ns.map V.int) ∧ ns.length ≤ 1000 ∧ ∀ d c H2, Frm [] H H2 → Tape H2 d c → Q (.ref d) H2
theorem sqL_frm {K : PySem.W.Frag} {H H' : Hp} {a : Addr} {xs : List V} (h : SqL K H a xs) (f : Frm [] H H') : SqL K H' a xs := by
  rcases h with (h | ⟨o, h⟩) | h
  · exact .inl (.inl (f.get0 h))
  · exact .inl (.inr ⟨o, f.get0 h⟩)
  · exact .inr h
theorem ok_tape (T : Tx K mg) (A : At K mg "_law_tape" sLawTape ["_law_script"]) : Has P w K mg base CX0 "_law_tape" ["_law_script"] 1 (sp1 (pTape K)) := by
  refine has_mk A scLawTape (fun vs H Q E h => by obtain ⟨_, rfl, _⟩ := h; rfl) fun f cdv A outer s H vs Q E hr h => ?_
  obtain ⟨sc, rfl, a, ns, rfl, hS, hl, q⟩ := h
  refine ⟨_, (pss_cons (ps_setLc (i := 2) (own := [("_law_cell", 1)]) rfl scLawTape.nd rfl rfl (sw_true rfl rfl rfl (by decide +kernel)) (pi_list (pv 0)) (blkOk_by (own := [("_law_cell", 1)]) (N := ["_law_script", "_law_cell", "_law_cells", "_law_seed"]) (sc := defScope sLawTape) (by decide +kernel)) (fun _ _ _ _ _ => (pg_name (i := 1) scLawTape.nd rfl (Or.inl rfl))) (fun _ _ _ _ _ => pts_nil) (fun _ _ _ _ _ => (pe_callB k_abs (by rfl) T.abs (by decide +kernel) (pa_cons (pe_callTy k_int1 (by rfl) T.int (by decide +kernel) (pa_cons (pv 1) pa_nil)) pa_nil)))) (pss_cons (ps_set (i := 3) scLawTape.nd rfl (Or.inl rfl) pe_int) (pss_cons (ps_for PassesOwn.never rfl (pi_list (pv 2)) (pg_name (i := 1) scLawTape.nd rfl (Or.inl rfl)) (pss_one (ps_set (i := 3) scLawTape.nd rfl (Or.inl rfl) (pe_op k_mod (pe_callTy k_int1 (by rfl) T.int (by decide +kernel) (pa_cons (pe_op k_add (pe_op k_mul (pv 3) pe_int) (pv 1)) pa_nil)) pe_int)))) (pss_one (ps_ret (pe_disp (pps_cons pe_str (pv 2) (pps_cons pe_str pe_int (pps_cons pe_str pe_int (pps_cons pe_str (pv 3) (pps_cons pe_str pe_int pps_nil))))) (by rfl) (by rfl) (fun z => by cases z) (by decide))))))), ?_⟩
  wtm_at "kk"
  refine g_st (σ' := [some (.ref a), none, none, none]) rfl ?_
  wtm_at "go"
  refine ⟨a, rfl, ⟨_, hS⟩, ?_⟩
  refine KLc.map (walk_list (xs := ns.map V.int)) (fun H' f => sqL_frm hS f) ((ns.map fun z => if z < 0 then -z else z).map PyData.int) (by simp) (by rw [List.length_map]; omega) (fun i x H1 H2 Dr N d hd f1 y kc => ?_) (fun l H2 ys nl f2 hl2 dl => ?_)
  · obtain ⟨rfl, hx⟩ := y
    rw [List.getElem?_map] at hx
    rw [List.getElem?_map, List.getElem?_map] at hd
    cases hz : ns[i]? with
    | none => rw [hz] at hx; cases hx
    | some z =>
      rw [hz] at hx hd
      obtain rfl := Option.some.inj hx
      obtain rfl := Option.some.inj hd
      wtm_at "wi"
      wtm_at "go"
      exact kc _ _ (Frm.refl _ _) (.int _)
  · have hys : ys = (ns.map fun z => if z < 0 then -z else z).map V.int := by
      have key : ∀ (l : List Int) (ys : List V), DL H2 ys (l.map PyData.int) → ys = l.map V.int := by
        intro l
        induction l with
        | nil => intro ys h; exact h.nilE
        | cons b r ih =>
          intro ys h
          obtain ⟨x, t, rfl, h1, h2⟩ := h.consE
          cases h1
          rw [ih t h2]; rfl
      exact key _ ys dl
    subst hys
    wtm_at "go"
    refine KForL.mk (xs := (ns.map fun z => if z < 0 then -z else z).map V.int) (fun i σ H' => ∃ x1 sd, σ = [some (.ref a), x1, some (.ref l), some (.int sd)] ∧ H' = H2)
      (fun i σ H' _ h => by obtain ⟨_, _, _, rfl⟩ := h; exact hl2) ⟨none, 7, rfl, rfl⟩ (fun i x σ H' hx h => ?_) (fun σ H' h => ?_)
    · obtain ⟨x1, sd, rfl, rfl⟩ := h
      rw [List.getElem?_map] at hx
      cases hz : (ns.map fun z => if z < 0 then -z else z)[i]? with
      | none => rw [hz] at hx; cases hx
      | some z =>
        rw [hz] at hx
        obtain rfl := Option.some.inj hx
        wtm_at "go"
        refine g_mul (.inr (by decide)) ?_
        wtm_at "go"
        refine g_mod (by decide) ?_
        exact ⟨_, _, rfl, rfl⟩
    · obtain ⟨x1, sd, rfl, rfl⟩ := h
      wtm_at "go"
      refine fun p hp => ?_
      dsimp only [tPairs, tC, tVar]
      refine ⟨.ref l, rfl, .int sd, rfl, upd_same, [(kS "cells", .ref l), (kS "at", .int 0), (kS "left", .int 0), (kS "seed", .int sd), (kS "salt", .int 0)], rfl, Nat.le_of_ble_eq_true rfl, ?_⟩
      wtm_at "go"
      have hlp : l ≠ p := ne_of_none hl2 hp
      refine q p l _ ((f2.trans (Frm.new (o := .dK []) hp)).loc (f2.back0 hp)) ⟨_, 0, 0, sd, 0, _, upd_same, TapeV.make l sd, by rw [upd_ne hlp, upd_ne hlp]; exact hl2, fun x hx => ?_, by rw [List.length_map]; omega⟩
      obtain ⟨z, _, rfl⟩ := List.mem_map.mp hx
      split <;> omega
end

section
variable {P : Program} {w : World} {K : PySem.W.Frag} {mg : Str → Option Value} {base : Heap}
abbrev sLawAll : Stmt := top 55
theorem scLawAll : FnScope ["_law_block_here", "_law_found", "_law_one"] ["_law_block_here"] (defScope sLawAll) := ⟨rfl, rfl, rfl, by decide +kernel, rfl, by decide +kernel, by decide +kernel⟩
theorem ok_lall (T : Tx K mg) (A : At K mg "_law_all" sLawAll ["_law_block_here"]) : ∀ n, Has P w K mg base CX0 "_law_all" ["_law_block_here"] (n + 1) (sp1 (pAll n))
  | 0 => has_no A fun vs H Q E h => by obtain ⟨_, _, _, _, h, _⟩ := h; exact absurd h (Nat.not_lt_zero _)
  | n + 1 => by
    have C__law_all := ok_lall T A n
    refine has_mk A scLawAll (fun vs H Q E h => by obtain ⟨_, rfl, _⟩ := h; rfl) fun f cdv A outer s H vs Q E hr h => ?_
    obtain ⟨bl, rfl, b, dB, hd, hz, q⟩ := h
    obtain ⟨ab, xs, rfl, hb, dX⟩ := dB.tupE
    refine ⟨_, (pss_cons (ps_set (i := 1) scLawAll.nd rfl (Or.inl rfl) (pe_lst pa_nil)) (pss_cons (ps_for PassesOwn.never rfl (pi_tup (pv 0)) (pg_name (i := 2) scLawAll.nd rfl (Or.inl rfl)) (pss_cons (ps_expr (pe_bm PySem.F.plainAttrs_list PySem.F.slot_list_append PySem.F.type_list_append mt_append (pv 1) (pa_cons (pv 2) pa_nil))) (pss_cons (ps_if (pt_cmpR op_eq (pe_ix ix_tup (pv 2) pe_int (fun _ _ => rfl)) pe_str (nomark _)) (pss_one (ps_set (i := 1) scLawAll.nd rfl (Or.inl rfl) (pe_op op_cat (pe_op op_cat (pv 1) (pe_h0 C__law_all (hr.mono (by omega)) (pa_cons (pe_ix ix_tup (pv 2) pe_int (fun _ _ => rfl)) pa_nil))) (pe_h0 C__law_all (hr.mono (by omega)) (pa_cons (pe_ix ix_tup (pv 2) pe_int (fun _ _ => rfl)) pa_nil))))) pss_nil) (pss_one (ps_if (pt_cmpR op_eq (pe_ix ix_tup (pv 2) pe_int (fun _ _ => rfl)) pe_str (nomark _)) (pss_one (ps_set (i := 1) scLawAll.nd rfl (Or.inl rfl) (pe_op op_cat (pv 1) (pe_h0 C__law_all (hr.mono (by omega)) (pa_cons (pe_ix ix_tup (pv 2) pe_int (fun _ _ => rfl)) pa_nil))))) pss_nil))))) (pss_one (ps_ret (pv 1))))), ?_⟩
    wtm_at "kk"
    refine g_st (σ' := [some (.ref ab), none, none]) rfl ?_
    wtm_at "go"
    rename_i l0 H1 nn0 f1 h0
    refine KForT.mk (xs := xs) (fun i σ H' => ∃ lf x2, σ = [some (.ref ab), some (.ref lf), x2] ∧ H lf = none ∧ LI [] H lf (encB (allB (b.take i))) H')
      (fun i σ H' _ h => by obtain ⟨_, _, _, _, h⟩ := h; exact h.fr.get0 hb) ⟨l0, none, rfl, nn0, .new f1 h0⟩ (fun i x σ H' hx h => ?_) (fun σ H' h => ?_)
    · obtain ⟨lf, x2, rfl, n0, h⟩ := h
      have fH := h.fr
      obtain ⟨sm, hs, dS⟩ := (dX.frm fH).stm hx
      have hsm := List.mem_of_getElem? hs
      have hdp := dp_mem hsm
      have hsz := sz_mem hsm
      have hsz2 : szB (b.take i) + sm.sz ≤ szB b := by
        have := szB_take b (i + 1)
        rw [take_snoc hs, szB_snoc] at this
        exact this
      obtain ⟨us, hu, du⟩ := h.at_
      have hul : us.length = szB (b.take i) := by rw [du.len, encB_len, allB_len]
      have hall : allB (b.take (i + 1)) = allB (b.take i) ++ (sm :: (inn sm).flatMap allB) := by rw [take_snoc hs, allB_snoc, ← all_inn]
      have h1 := h.app n0 hu dS
      have f2 : Frm [lf] H' (upd H' lf (.lst (us ++ [x]))) := Frm.mut List.mem_cons_self hu nt_lst
      have hu2 : upd H' lf (.lst (us ++ [x])) lf = some (.lst (us ++ [x])) := upd_same
      have dS2 := dS.frm f2
      wtm_at "go"
      refine g_app hu (by omega) ?_
      generalize upd H' lf (.lst (us ++ [x])) = H2 at h1 f2 hu2 dS2 ⊢
      cases sm with
      | msg f t l v y =>
        obtain ⟨b1, x0, x1, x2, x3, x4, x5, rfl, hb1, d0, d1, d2, d3, d4, d5⟩ := D.t6 dS2
        cases d0
        wtm_at "go"
        refine ⟨lf, _, rfl, n0, ?_⟩
        rw [hall, encB_app]; exact h1
      | set e y v =>
        obtain ⟨b1, x0, x1, x2, x3, rfl, hb1, d0, d1, d2, d3⟩ := D.t4 dS2
        cases d0
        wtm_at "go"
        refine ⟨lf, _, rfl, n0, ?_⟩
        rw [hall, encB_app]; exact h1
      | ask e y =>
        obtain ⟨b1, x0, x1, x2, rfl, hb1, d0, d1, d2⟩ := D.t3 dS2
        cases d0
        wtm_at "go"
        refine ⟨lf, _, rfl, n0, ?_⟩
        rw [hall, encB_app]; exact h1
      | call e y =>
        obtain ⟨b1, x0, x1, x2, rfl, hb1, d0, d1, d2⟩ := D.t3 dS2
        cases d0
        wtm_at "go"
        refine ⟨lf, _, rfl, n0, ?_⟩
        rw [hall, encB_app]; exact h1
      | ite e v y n =>
        obtain ⟨b1, x0, x1, x2, x3, x4, rfl, hb1, d0, d1, d2, d3, d4⟩ := D.t5 dS2
        cases d0
        have m1 : y ∈ inn (.ite e v y n) := by simp [inn]
        have m2 : n ∈ inn (.ite e v y n) := by simp [inn]
        have z1 := dp_inn m1
        have z2 := dp_inn m2
        have zz : (Stm.ite e v y n).sz = 1 + szB y + szB n := rfl
        wtm_at "go"
        refine to1 ⟨y, d3, by omega, by omega, fun l1 H3 v1 n3 f3 h3 dv1 => ?_⟩
        have hl1 : v1.length = szB y := by rw [dv1.len, encB_len, allB_len]
        wtm_at "go"
        refine g_catL (f3.get0 hu2) h3 (by rw [List.length_append, List.length_singleton]; omega) (fun l2 H4 n4 f4 h4 => ?_)
        wtm_at "go"
        refine to1 ⟨n, (d4.frm f3).frm f4, by omega, by omega, fun l3 H5 v3 n5 f5 h5 dv3 => ?_⟩
        have hl3 : v3.length = szB n := by rw [dv3.len, encB_len, allB_len]
        wtm_at "go"
        refine g_catL (f5.get0 h4) h5 (by rw [List.length_append, List.length_append, List.length_singleton]; omega) (fun l6 H6 n6 f6 h6 => ?_)
        have f26 : Frm [] H2 H6 := ((f3.trans f4).trans f5).trans f6
        have hb6 := f26.get0 hb1
        wtm_at "go"
        have h16 := h1.frm f26
        refine ⟨l6, _, rfl, h1.fr.back0 (f3.back0 (f4.back0 (f5.back0 n6))), ⟨h16.fr, _, h6, ?_⟩⟩
        rw [hall, encB_app]
        have e1 := ((h1.dl hu2).frm f26).app (((dv1.frm f4).frm f5).frm f6) |>.app (dv3.frm f6)
        simpa [inn, encB, encB_app] using e1
      | whl e v y =>
        obtain ⟨b1, x0, x1, x2, x3, rfl, hb1, d0, d1, d2, d3⟩ := D.t4 dS2
        cases d0
        have m1 : y ∈ inn (.whl e v y) := by simp [inn]
        have z1 := dp_inn m1
        have zz : (Stm.whl e v y).sz = 1 + szB y := rfl
        wtm_at "go"
        refine to1 ⟨y, d3, by omega, by omega, fun l1 H3 v1 n3 f3 h3 dv1 => ?_⟩
        have hl1 : v1.length = szB y := by rw [dv1.len, encB_len, allB_len]
        wtm_at "go"
        refine g_catL (f3.get0 hu2) h3 (by rw [List.length_append, List.length_singleton]; omega) (fun l2 H4 n4 f4 h4 => ?_)
        have f24 : Frm [] H2 H4 := f3.trans f4
        wtm_at "go"
        have h16 := h1.frm f24
        refine ⟨l2, _, rfl, h1.fr.back0 (f3.back0 n4), ⟨h16.fr, _, h4, ?_⟩⟩
        rw [hall, encB_app]
        have e1 := ((h1.dl hu2).frm f24).app (dv1.frm f4)
        simpa [inn, encB, encB_app] using e1
    · obtain ⟨lf, x2, rfl, n0, h⟩ := h
      rw [dX.encLen, List.take_length] at h
      obtain ⟨vs, hv, dv⟩ := h.at_
      wtm_at "go"
      exact q lf H' vs n0 h.fr hv dv
abbrev sLawCount : Stmt := top 62
theorem scLawCount : FnScope ["_law_block_here"] ["_law_block_here"] (defScope sLawCount) := ⟨rfl, rfl, rfl, by decide +kernel, rfl, by decide +kernel, by decide +kernel⟩
def pCnt (bl : V) (H : Hp) (Q : VK) (_ : XK) : Prop := ∃ b : List Stm, D H bl (encBT b) ∧ dpB b < 8 ∧ szB b ≤ 400000 ∧ ∀ H2, Frm [] H H2 → Q (.int (szB b : Nat)) H2
theorem ok_cnt (T : Tx K mg) (A : At K mg "_law_count" sLawCount ["_law_block_here"]) (C__law_all : Has P w K mg base CX0 "_law_all" ["_law_block_here"] 9 (sp1 (pAll 8))) : Has P w K mg base CX0 "_law_count" ["_law_block_here"] 10 (sp1 pCnt) := by
  refine has_mk A scLawCount (fun vs H Q E h => by obtain ⟨_, rfl, _⟩ := h; rfl) fun f cdv A outer s H vs Q E hr h => ?_
  obtain ⟨bl, rfl, b, dB, hd, hz, q⟩ := h
  refine ⟨_, (pss_one (ps_ret (pe_callB k_len (by rfl) T.len PySem.boot_len (pa_cons (pe_h0 C__law_all (hr.mono (by omega)) (pa_cons (pv 0) pa_nil)) pa_nil)))), ?_⟩
  wtm_at "kk"
  refine g_st (σ' := [some (bl)]) rfl ?_
  wtm_at "go"
  refine to1 ⟨b, dB, hd, hz, fun l H2 vs nl f2 hl dl => ?_⟩
  wtm_at "go"
  have := q H2 f2
  rw [dl.len, encB_len, allB_len]
  exact this
end

section
variable {P : Program} {w : World} {K : PySem.W.Frag} {mg : Str → Option Value} {base : Heap}
abbrev sLawEnds : Stmt := top 66
theorem scLawEnds : FnScope ["_law_one", "_law_found", "_law_inner"] ["_law_one"] (defScope sLawEnds) := ⟨rfl, rfl, rfl, by decide +kernel, rfl, by decide +kernel, by decide +kernel⟩
def pLEnds (st : V) (H : Hp) (Q : VK) (_ : XK) : Prop := ∃ s : Stm, D H st (encS s) ∧ goodB [s] ∧ dpB [s] < 8 ∧ szB [s] ≤ 400000 ∧ ∀ l H2, H l = none → Frm [] H H2 → H2 l = some (.lst (s.ends.map V.str)) → Q (.ref l) H2
theorem ends1_le (s : Stm) : s.ends1.length ≤ 2 := by cases s <;> simp [Stm.ends1]
theorem ok_lends (T : Tx K mg) (A : At K mg "_law_ends" sLawEnds ["_law_one"]) (C__law_all : Has P w K mg base CX0 "_law_all" ["_law_block_here"] 9 (sp1 (pAll 8))) : Has P w K mg base CX0 "_law_ends" ["_law_one"] 10 (sp1 pLEnds) := by
  refine has_mk A scLawEnds (fun vs H Q E h => by obtain ⟨_, rfl, _⟩ := h; rfl) fun f cdv A outer s H vs Q E hr h => ?_
  obtain ⟨st, rfl, sm, dS, hg, hdp, hsz, q⟩ := h
  refine ⟨_, (pss_cons (ps_set (i := 1) scLawEnds.nd rfl (Or.inl rfl) (pe_lst pa_nil)) (pss_cons (ps_for PassesOwn.never rfl (pi_list (pe_h0 C__law_all (hr.mono (by omega)) (pa_cons (pe_tup (pa_cons (pv 0) pa_nil)) pa_nil))) (pg_name (i := 2) scLawEnds.nd rfl (Or.inl rfl)) (pss_one (ps_set (i := 1) scLawEnds.nd rfl (Or.inl rfl) (pe_op op_cat (pe_op op_cat (pv 1) (pe_lst (pa_cons (pe_ix ix_tup (pv 2) pe_int (fun _ _ => rfl)) pa_nil))) (pe_ifExp (pt_cmpR op_eq (pe_ix ix_tup (pv 2) pe_int (fun _ _ => rfl)) pe_str (nomark _)) (pe_lst (pa_cons (pe_ix ix_tup (pv 2) pe_int (fun _ _ => rfl)) pa_nil)) (pe_lst pa_nil)))))) (pss_one (ps_ret (pv 1))))), ?_⟩
  wtm_at "kk"
  refine g_st (σ' := [some (st), none, none]) rfl ?_
  wtm_at "go"
  rename_i l0 H1 n0 f1 h0 p1 H2 n2 f2 h2
  refine to1 ⟨[sm], .tup h2 (.one (dS.frm (f1.trans f2))), hdp, hsz, fun la H3 vs n3 f3 h3 d3 => ?_⟩
  have f03 := (f1.trans f2).trans f3
  have hall : sm.ends = (allB [sm]).flatMap Stm.ends1 := by simp [Stm.ends, allB]
  have hfl : ∀ i, (((allB [sm]).take i).flatMap Stm.ends1).length ≤ 2 * i := fun i => by
    induction i with
    | zero => simp
    | succ i ih =>
      cases e : (allB [sm])[i]? with
      | none =>
        rw [List.take_add_one, e]
        simp only [Option.toList_none, List.append_nil]; omega
      | some t =>
        rw [take_snoc e, List.flatMap_append, List.length_append]
        have := ends1_le t
        simp only [List.flatMap_cons, List.flatMap_nil, List.append_nil]; omega
  have hlen : (allB [sm]).length ≤ 400000 := by rw [allB_len]; exact hsz
  refine KForL.mk (xs := vs) (fun i σ H' => ∃ lf x2, σ = [some st, some (.ref lf), x2] ∧ H lf = none ∧ Frm [] H3 H' ∧ H' lf = some (.lst ((((allB [sm]).take i).flatMap Stm.ends1).map V.str)))
    (fun i σ H' _ h => by obtain ⟨_, _, _, _, h, _⟩ := h; exact h.get0 h3) ⟨l0, none, rfl, n0, Frm.refl _ _, f3.get0 (f2.get0 h0)⟩ (fun i x σ H' hx h => ?_) (fun σ H' h => ?_)
  · obtain ⟨lf, x2, rfl, nf, fH, hl⟩ := h
    obtain ⟨t, ht, dS⟩ := (d3.frm fH).stm hx
    have g := hg t (List.mem_of_getElem? ht)
    have hi := (List.getElem?_eq_some_iff.mp ht).1
    have hll := hfl i
    have f0H := f03.trans fH
    rcases dS.stm2 g with ⟨fr, to, lb, v, y, b, x3, x4, x5, rfl, rfl, hb⟩ | ⟨hm, z, b, xs, he1, hok, rfl, hb⟩
    · wtm_at "go"
      rename_i la1 H4 n4 f4 h4
      refine g_catL (f4.get0 hl) h4 (by rw [List.length_map]; simp only [List.length_cons, List.length_nil]; omega) (fun l5 H5 n5 f5 h5 => ?_)
      have hb5 := f5.get0 (f4.get0 hb)
      wtm_at "go"
      rename_i la6 H6 n6 f6 h6
      refine g_catL (f6.get0 h5) h6 (by rw [List.length_append, List.length_map]; simp only [List.length_cons, List.length_nil]; omega) (fun l7 H7 n7 f7 h7 => ?_)
      wtm_at "go"
      have fz := ((f4.trans f5).trans f6)
      refine ⟨l7, _, rfl, f0H.back0 (fz.back0 n7), (fH.trans fz).trans f7, ?_⟩
      rw [h7, take_snoc ht, List.flatMap_append, List.map_append]
      simp [Stm.ends1]
    · wtm_at "go"
      rename_i la1 H4 n4 f4 h4
      refine g_catL (f4.get0 hl) h4 (by rw [List.length_map]; simp only [List.length_cons, List.length_nil]; omega) (fun l5 H5 n5 f5 h5 => ?_)
      have hb5 := f5.get0 (f4.get0 hb)
      wtm_at "go"
      rw [hm, if_neg (by decide)]
      wtm_at "go"
      rename_i la6 H6 n6 f6 h6
      refine g_catL (f6.get0 h5) h6 (by rw [List.length_append, List.length_map]; simp only [List.length_cons, List.length_nil]; omega) (fun l7 H7 n7 f7 h7 => ?_)
      wtm_at "go"
      have fz := ((f4.trans f5).trans f6)
      refine ⟨l7, _, rfl, f0H.back0 (fz.back0 n7), (fH.trans fz).trans f7, ?_⟩
      rw [h7, take_snoc ht, List.flatMap_append, List.map_append]
      simp [he1]
  · obtain ⟨lf, x2, rfl, nf, fH, hl⟩ := h
    wtm_at "go"
    rw [d3.encLen, List.take_length, ← hall] at hl
    exact q lf H' nf (f03.trans fH) hl
abbrev sLawBlockAt : Stmt := top 68
theorem scLawBlockAt : FnScope ["_law_block_here", "_law_path"] ["_law_block_here", "_law_path"] (defScope sLawBlockAt) := ⟨rfl, rfl, rfl, by decide +kernel, rfl, by decide +kernel, by decide +kernel⟩
def pBat (bl pa : V) (H : Hp) (Q : VK) (_ : XK) : Prop := ∃ (b : List Stm) (p : List Nat), D H bl (encBT b) ∧ D H pa (encPath p) ∧ isPath b p = true ∧ ∀ v H2, Frm [] H H2 → D H2 v (encBT (blockAt b p)) → Q v H2
theorem ok_bat (T : Tx K mg) (A : At K mg "_law_block_at" sLawBlockAt ["_law_block_here", "_law_path"]) : Has P w K mg base CX0 "_law_block_at" ["_law_block_here", "_law_path"] 1 (sp2 pBat) := by
  refine has_mk A scLawBlockAt (fun vs H Q E h => by obtain ⟨_, _, rfl, _⟩ := h; rfl) fun f cdv A outer s H vs Q E hr h => ?_
  obtain ⟨bl, pa, rfl, b, p, dB, dP, hip, q⟩ := h
  refine ⟨_, (pss_cons (ps_while PassesOwn.never (pt_cmpR k_gt (pe_callB k_len (by rfl) T.len PySem.boot_len (pa_cons (pv 1) pa_nil)) pe_int (nomark _)) (pss_cons (ps_set (i := 0) scLawBlockAt.nd rfl (Or.inl rfl) (pe_ix ix_tup (pe_ix ix_tup (pv 0) (pe_ix ix_tup (pv 1) pe_int (fun _ _ => rfl)) (fun _ _ => rfl)) (pe_op k_add pe_int (pe_ix ix_tup (pv 1) pe_int (fun _ _ => rfl))) (fun _ _ => rfl))) (pss_one (ps_set (i := 1) scLawBlockAt.nd rfl (Or.inl rfl) (pe_slice sl_tupA (pv 1) (po_some pe_int) po_none))))) (pss_one (ps_ret (pv 0)))), ?_⟩
  wtm_at "kk"
  refine g_st (σ' := [some (bl), some (pa)]) rfl ?_
  refine g_seq ?_
  refine g_while (fun m σ H' => ∃ pa bl b', ∃ p' : List Nat, σ = [some bl, some pa] ∧ Frm [] H H' ∧ D H' bl (encBT b') ∧ D H' pa (encPath p') ∧ isPath b' p' = true ∧ blockAt b' p' = blockAt b p ∧ p'.length = m) p.length
    ⟨pa, bl, b, p, rfl, Frm.refl _ _, dB, dP, hip, rfl, rfl⟩ (fun m σ H' w => ?_)
  obtain ⟨pa, bl, b', p', rfl, fH, dB', dP', hip', hba, hm⟩ := w
  obtain ⟨ap, rfl, hp⟩ := dP'.path
  obtain ⟨ab, xs, rfl, hb, dX⟩ := dB'.tupE
  wtm_at "go"
  rw [List.length_map]
  refine g_ite (fun c => ?_) fun c => ?_
  · have c' := of_decide_eq_true c
    match p', c', hp, dP', hip', hba, hm with
    | k :: j :: r, _, hp, dP', hip', hba, hm =>
      refine g_turn ?_
      rw [List.map_cons, List.map_cons] at hp
      have hip2 : (match inner b' k j with | none => false | some c => isPath c r) = true := hip'
      cases hin : inner b' k j with
      | none => rw [hin] at hip2; cases hip2
      | some cc =>
        rw [hin] at hip2
        have hba2 : blockAt cc r = blockAt b p := by
          rw [← hba]
          show blockAt cc r = (match inner b' k j with | none => b' | some c => blockAt c r)
          rw [hin]
        obtain ⟨sm, e1, hcs, hmem⟩ := inner_mem hin
        obtain ⟨v1, ev1, dS⟩ := dX.stmAt e1
        wtm_at "go"
        refine g_ixT hb (atI_nat ev1) ?_
        wtm_at "go"
        cases sm with
        | msg f t l v y => cases hcs
        | set e1 y v => cases hcs
        | ask e1 y => cases hcs
        | call p es => cases hcs
        | ite e1 v y n =>
          obtain ⟨b1, x0, x1, x2, x3, x4, rfl, hs, d0, d1, d2, d3, d4⟩ := D.t5 dS
          have hcs' : (if j = 0 then some y else if j = 1 then some n else none) = some cc := hcs
          by_cases h0 : j = 0
          · rw [if_pos h0] at hcs'
            cases hcs'
            subst h0
            refine g_ixT hs (at3 rfl) ?_
            wtm_at "go"
            rename_i ar H3 f3 h3
            exact ⟨r.length, by rw [← hm, List.length_cons, List.length_cons]; omega, _, _, cc, r, rfl, fH.trans f3, d3.frm f3, D.ofPath h3, hip2, hba2, rfl⟩
          · rw [if_neg h0] at hcs'
            by_cases h1 : j = 1
            · rw [if_pos h1] at hcs'
              cases hcs'
              subst h1
              refine g_ixT hs (at4 rfl) ?_
              wtm_at "go"
              rename_i ar H3 f3 h3
              exact ⟨r.length, by rw [← hm, List.length_cons, List.length_cons]; omega, _, _, cc, r, rfl, fH.trans f3, d4.frm f3, D.ofPath h3, hip2, hba2, rfl⟩
            · rw [if_neg h1] at hcs'; cases hcs'
        | whl e1 v y =>
          obtain ⟨b1, x0, x1, x2, x3, rfl, hs, d0, d1, d2, d3⟩ := D.t4 dS
          have hcs' : (if j = 0 then some y else none) = some cc := hcs
          by_cases h0 : j = 0
          · rw [if_pos h0] at hcs'
            cases hcs'
            subst h0
            refine g_ixT hs (at3 rfl) ?_
            wtm_at "go"
            rename_i ar H3 f3 h3
            exact ⟨r.length, by rw [← hm, List.length_cons, List.length_cons]; omega, _, _, cc, r, rfl, fH.trans f3, d3.frm f3, D.ofPath h3, hip2, hba2, rfl⟩
          · rw [if_neg h0] at hcs'; cases hcs'
    | [k], c', _, _, _, _, _ => exact absurd c' (by simp)
    | [], c', _, _, _, _, _ => exact absurd c' (by simp)
  · have c' := of_decide_eq_false c
    wtm_at "go"
    match p', c', hip', hba with
    | k :: j :: r, c', _, _ => exact absurd c' (by simp; omega)
    | [k], _, _, hba => exact q _ H' fH (by rw [← hba]; exact dB')
    | [], _, hip', _ => exact absurd hip' (by cases b' <;> simp [isPath])
end

section
variable {P : Program} {w : World} {K : PySem.W.Frag} {mg : Str → Option Value} {base : Heap} {CI fI : Addr}
abbrev sLawWith : Stmt := top 69
theorem scLawWith : FnScope ["_law_block_here", "_law_path", "_law_k", "_law_one", "_law_place"] ["_law_block_here", "_law_path"] (defScope sLawWith) := ⟨rfl, rfl, rfl, by decide +kernel, rfl, by decide +kernel, by decide +kernel⟩
theorem ok_with (T : Tx K mg) (A : At K mg "_law_with" sLawWith ["_law_block_here", "_law_path"]) : ∀ n, Has P w K mg base CX0 "_law_with" ["_law_block_here", "_law_path"] (n + 1) (sp2 (pExI n))
  | 0 => has_no A fun vs H Q E h => by obtain ⟨_, _, _, _, _, _, _, _, h, _⟩ := h; exact absurd h (Nat.not_lt_zero _)
  | n + 1 => by
    have C__law_with := ok_with T A n
    refine has_mk A scLawWith (fun vs H Q E h => by obtain ⟨_, _, rfl, _⟩ := h; rfl) fun f cdv A outer s H vs Q E hr h => ?_
    obtain ⟨bl, pa, rfl, b, p, dB, dP, hme, hlen, hsz, q⟩ := h
    obtain ⟨ab, xs, rfl, hb, dX⟩ := dB.tupE
    have hxl := dX.encLen
    have hbl := len_le_szB b
    obtain ⟨ap, rfl, hp⟩ := dP.path
    refine ⟨_, (pss_cons (ps_set (i := 2) scLawWith.nd rfl (Or.inl rfl) (pe_ix ix_tup (pv 1) pe_int (fun _ _ => rfl))) (pss_cons (ps_if (pt_cmpR op_eq (pe_callB k_len (by rfl) T.len PySem.boot_len (pa_cons (pv 1) pa_nil)) pe_int (nomark _)) (pss_one (ps_ret (pe_op op_catA (pe_op op_catA (pe_slice sl_tupA (pv 0) po_none (po_some (pv 2))) (pe_tup (pa_cons (pe_ix ix_tup (pv 0) (pe_op k_add (pv 2) pe_int) (fun _ _ => rfl)) (pa_cons (pe_ix ix_tup (pv 0) (pv 2) (fun _ _ => rfl)) pa_nil)))) (pe_slice sl_tupA (pv 0) (po_some (pe_op k_add (pv 2) pe_int)) po_none)))) pss_nil) (pss_cons (ps_set (i := 3) scLawWith.nd rfl (Or.inl rfl) (pe_ix ix_tup (pv 0) (pv 2) (fun _ _ => rfl))) (pss_cons (ps_set (i := 4) scLawWith.nd rfl (Or.inl rfl) (pe_op k_add pe_int (pe_ix ix_tup (pv 1) pe_int (fun _ _ => rfl)))) (pss_one (ps_ret (pe_op op_catA (pe_op op_catA (pe_slice sl_tupA (pv 0) po_none (po_some (pv 2))) (pe_tup (pa_cons (pe_op op_catA (pe_op op_catA (pe_slice sl_tupA (pv 3) po_none (po_some (pv 4))) (pe_tup (pa_cons (pe_h0 C__law_with (hr.mono (by omega)) (pa_cons (pe_ix ix_tup (pv 3) (pv 4) (fun _ _ => rfl)) (pa_cons (pe_slice sl_tupA (pv 1) (po_some pe_int) po_none) pa_nil))) pa_nil))) (pe_slice sl_tupA (pv 3) (po_some (pe_op k_add (pv 4) pe_int)) po_none)) pa_nil))) (pe_slice sl_tupA (pv 0) (po_some (pe_op k_add (pv 2) pe_int)) po_none)))))))), ?_⟩
    wtm_at "kk"
    refine g_st (σ' := [some (.ref ab), some (.ref ap), none, none, none]) rfl ?_
    match p, hp, hme, hlen, q with
    | [], _, hme, _, _ => exact absurd hme (by cases b <;> simp [mayEx])
    | [k], hp, hme, hlen, q =>
      have hme' : follow b k = true := hme
      unfold follow at hme'
      cases e1 : b[k]? with
      | none => rw [e1] at hme'; cases hme'
      | some s1 =>
        cases e2 : b[k + 1]? with
        | none => rw [e1, e2] at hme'; cases hme'
        | some s2 =>
          obtain ⟨v1, ev1, d1⟩ := dX.stmAt e1
          obtain ⟨v2, ev2, d2⟩ := dX.stmAt e2
          have hk2 := (List.getElem?_eq_some_iff.mp ev2).1
          wtm_at "go"
          rw [if_pos (by rfl)]
          wtm_at "go"
          refine g_slU (n := k) (by wtm_at "hp") (fun p1 H2 f2 h2 => ?_)
          wtm_at "go"
          refine g_ixT (by wtm_at "hp") (atI_nat (j := k + 1) ev2) ?_
          wtm_at "go"
          refine g_ixT (by wtm_at "hp") (atI_nat ev1) ?_
          wtm_at "go"
          rename_i p3 H4 n4 f4 h4
          refine g_catT (by wtm_at "hp") h4 (by rw [List.length_take]; simp only [List.length_cons, List.length_nil]; omega) (fun p5 H5 f5 h5 => ?_)
          wtm_at "go"
          refine g_slF (n := k + 2) (by wtm_at "hp") (fun p6 H6 f6 h6 => ?_)
          wtm_at "go"
          refine g_catT (by wtm_at "hp") h6 (by rw [List.length_append, List.length_take, List.length_drop]; simp only [List.length_cons, List.length_nil]; omega) (fun p7 H7 f7 h7 => ?_)
          have f0 : Frm [] H H7 := by wtm_at "fr"
          refine q _ H7 f0 ?_
          have ee : exB b [k] = b.take k ++ [s2, s1] ++ b.drop (k + 2) := by simp only [exB, e1, e2]
          rw [ee]
          refine .tup h7 ?_
          rw [encB_map, List.map_append, List.map_append, List.map_take, List.map_drop, ← encB_map]
          exact ((dX.frm f0).take k).app (.cons (d2.frm f0) (.cons (d1.frm f0) .nil)) |>.app ((dX.frm f0).drop (k + 2))
    | k :: j :: r, hp, hme, hlen, q =>
      have hme' : (match inner b k j with | none => false | some c => mayEx c r) = true := hme
      cases hin : inner b k j with
      | none => rw [hin] at hme'; cases hme'
      | some c =>
        rw [hin] at hme'
        have hmc : mayEx c r = true := hme'
        obtain ⟨sm, e1, hcs, hmem⟩ := inner_mem hin
        have hcz : szB c ≤ 400000 := by
          have h1 := sz_innM hmem
          have h2 := sz_mem (List.mem_of_getElem? e1)
          omega
        obtain ⟨v1, ev1, dS⟩ := dX.stmAt e1
        have hk2 := (List.getElem?_eq_some_iff.mp ev1).1
        rw [List.map_cons, List.map_cons] at hp
        wtm_at "go"
        refine g_ite (fun z => ?_) fun _ => ?_
        · have := V.int.inj (of_decide_eq_true z)
          simp only [List.length_cons, List.length_map] at this
          omega
        cases sm with
        | msg f t l v y => cases hcs
        | set e1 y v => cases hcs
        | ask e1 y => cases hcs
        | call p es => cases hcs
        | ite e1 v y n =>
          obtain ⟨b', x0, x1, x2, x3, x4, rfl, hs, d0, d1, d2, d3, d4⟩ := D.t5 dS
          have hcs' : (if j = 0 then some y else if j = 1 then some n else none) = some c := hcs
          by_cases h0 : j = 0
          · rw [if_pos h0] at hcs'
            cases hcs'
            subst h0
            wtm_at "go"
            refine g_ixT (by wtm_at "hp") (atI_nat ev1) ?_
            wtm_at "go"
            refine g_slU (n := k) hb (fun p1 Ha fa h1 => ?_)
            wtm_at "go"
            refine g_slU (n := 3) (fa.get0 hs) (fun p2 Hb fb h2 => ?_)
            have hsb := fb.get0 (fa.get0 hs)
            wtm_at "go"
            refine g_ixT hsb (at3 rfl) ?_
            wtm_at "go"
            rename_i pr Hr fr hpr
            have fHr : Frm [] H Hr := (fa.trans fb).trans fr
            refine to2 ⟨c, r, d3.frm fHr, D.ofPath hpr, hmc, by simp only [List.length_cons] at hlen; omega, hcz, fun v H1 f1 dv => ?_⟩
            have f01 : Frm [] H H1 := fHr.trans f1
            have h1x := f1.get0 (fr.get0 (fb.get0 h1))
            have h2x := f1.get0 (fr.get0 h2)
            have hs1 := f01.get0 hs
            have hb1 := f01.get0 hb
            clear h1 h2 hsb fa fb
            wtm_at "go"
            rename_i p3 H4 n4 f4 h4 p5 H5 f5 h5
            refine g_slF (n := 4) (f5.get0 (f4.get0 hs1)) (fun p6 H6 f6 h6 => ?_)
            wtm_at "go"
            rename_i p7 H7 f7 h7 p8 H8 n8 f8 h8
            have f18 : Frm [] H1 H8 := (((f4.trans f5).trans f6).trans f7).trans f8
            refine g_catT (f18.get0 h1x) h8 (by rw [List.length_take, List.length_singleton]; omega) (fun p9 H9 f9 h9 => ?_)
            wtm_at "go"
            have f19 : Frm [] H1 H9 := f18.trans f9
            refine g_slF (n := k + 1) (f19.get0 (f01.get0 hb)) (fun p10 H10 f10 h10 => ?_)
            wtm_at "go"
            refine g_catT (by wtm_at "hp") h10 (by rw [List.length_append, List.length_take, List.length_singleton, List.length_drop]; omega) (fun p11 H11 f11 h11 => ?_)
            have f111 : Frm [] H1 H11 := by wtm_at "fr"
            have f0 : Frm [] H H11 := f01.trans f111
            refine q _ H11 f0 ?_
            have e7 : H11 p7 = some (.tup [x0, x1, x2, v, x4]) := by
              have := f11.get0 (f10.get0 (f9.get0 (f8.get0 h7)))
              exact this
            rw [exB_at e1 hcs]
            have dv' := dv.frm f111
            refine .tup h11 ?_
            rw [encB_map, List.map_append, List.map_append, List.map_take, List.map_drop, ← encB_map]
            refine ((dX.frm f0).take k).app (.one (.tup e7 ?_)) |>.app ((dX.frm f0).drop (k + 1))
            exact .cons (d0.frm f0) (.cons (d1.frm f0) (.cons (d2.frm f0) (.cons dv' (.cons (d4.frm f0) (.nil)))))
          · rw [if_neg h0] at hcs'
            by_cases h1 : j = 1
            · rw [if_pos h1] at hcs'
              cases hcs'
              subst h1
              wtm_at "go"
              refine g_ixT (by wtm_at "hp") (atI_nat ev1) ?_
              wtm_at "go"
              refine g_slU (n := k) hb (fun p1 Ha fa h1 => ?_)
              wtm_at "go"
              refine g_slU (n := 4) (fa.get0 hs) (fun p2 Hb fb h2 => ?_)
              have hsb := fb.get0 (fa.get0 hs)
              wtm_at "go"
              refine g_ixT hsb (at4 rfl) ?_
              wtm_at "go"
              rename_i pr Hr fr hpr
              have fHr : Frm [] H Hr := (fa.trans fb).trans fr
              refine to2 ⟨c, r, d4.frm fHr, D.ofPath hpr, hmc, by simp only [List.length_cons] at hlen; omega, hcz, fun v H1 f1 dv => ?_⟩
              have f01 : Frm [] H H1 := fHr.trans f1
              have h1x := f1.get0 (fr.get0 (fb.get0 h1))
              have h2x := f1.get0 (fr.get0 h2)
              have hs1 := f01.get0 hs
              have hb1 := f01.get0 hb
              clear h1 h2 hsb fa fb
              wtm_at "go"
              rename_i p3 H4 n4 f4 h4 p5 H5 f5 h5
              refine g_slF (n := 5) (f5.get0 (f4.get0 hs1)) (fun p6 H6 f6 h6 => ?_)
              wtm_at "go"
              rename_i p7 H7 f7 h7 p8 H8 n8 f8 h8
              have f18 : Frm [] H1 H8 := (((f4.trans f5).trans f6).trans f7).trans f8
              refine g_catT (f18.get0 h1x) h8 (by rw [List.length_take, List.length_singleton]; omega) (fun p9 H9 f9 h9 => ?_)
              wtm_at "go"
              have f19 : Frm [] H1 H9 := f18.trans f9
              refine g_slF (n := k + 1) (f19.get0 (f01.get0 hb)) (fun p10 H10 f10 h10 => ?_)
              wtm_at "go"
              refine g_catT (by wtm_at "hp") h10 (by rw [List.length_append, List.length_take, List.length_singleton, List.length_drop]; omega) (fun p11 H11 f11 h11 => ?_)
              have f111 : Frm [] H1 H11 := by wtm_at "fr"
              have f0 : Frm [] H H11 := f01.trans f111
              refine q _ H11 f0 ?_
              have e7 : H11 p7 = some (.tup [x0, x1, x2, x3, v]) := by
                have := f11.get0 (f10.get0 (f9.get0 (f8.get0 h7)))
                exact this
              rw [exB_at e1 hcs]
              have dv' := dv.frm f111
              refine .tup h11 ?_
              rw [encB_map, List.map_append, List.map_append, List.map_take, List.map_drop, ← encB_map]
              refine ((dX.frm f0).take k).app (.one (.tup e7 ?_)) |>.app ((dX.frm f0).drop (k + 1))
              exact .cons (d0.frm f0) (.cons (d1.frm f0) (.cons (d2.frm f0) (.cons (d3.frm f0) (.cons dv' (.nil)))))
            · rw [if_neg h1] at hcs'; cases hcs'
        | whl e1 v cc =>
          obtain ⟨b', x0, x1, x2, x3, rfl, hs, d0, d1, d2, d3⟩ := D.t4 dS
          have hcs' : (if j = 0 then some cc else none) = some c := hcs
          by_cases h0 : j = 0
          · rw [if_pos h0] at hcs'
            cases hcs'
            subst h0
            wtm_at "go"
            refine g_ixT (by wtm_at "hp") (atI_nat ev1) ?_
            wtm_at "go"
            refine g_slU (n := k) hb (fun p1 Ha fa h1 => ?_)
            wtm_at "go"
            refine g_slU (n := 3) (fa.get0 hs) (fun p2 Hb fb h2 => ?_)
            have hsb := fb.get0 (fa.get0 hs)
            wtm_at "go"
            refine g_ixT hsb (at3 rfl) ?_
            wtm_at "go"
            rename_i pr Hr fr hpr
            have fHr : Frm [] H Hr := (fa.trans fb).trans fr
            refine to2 ⟨c, r, d3.frm fHr, D.ofPath hpr, hmc, by simp only [List.length_cons] at hlen; omega, hcz, fun v H1 f1 dv => ?_⟩
            have f01 : Frm [] H H1 := fHr.trans f1
            have h1x := f1.get0 (fr.get0 (fb.get0 h1))
            have h2x := f1.get0 (fr.get0 h2)
            have hs1 := f01.get0 hs
            have hb1 := f01.get0 hb
            clear h1 h2 hsb fa fb
            wtm_at "go"
            rename_i p3 H4 n4 f4 h4 p5 H5 f5 h5
            refine g_slF (n := 4) (f5.get0 (f4.get0 hs1)) (fun p6 H6 f6 h6 => ?_)
            wtm_at "go"
            rename_i p7 H7 f7 h7 p8 H8 n8 f8 h8
            have f18 : Frm [] H1 H8 := (((f4.trans f5).trans f6).trans f7).trans f8
            refine g_catT (f18.get0 h1x) h8 (by rw [List.length_take, List.length_singleton]; omega) (fun p9 H9 f9 h9 => ?_)
            wtm_at "go"
            have f19 : Frm [] H1 H9 := f18.trans f9
            refine g_slF (n := k + 1) (f19.get0 (f01.get0 hb)) (fun p10 H10 f10 h10 => ?_)
            wtm_at "go"
            refine g_catT (by wtm_at "hp") h10 (by rw [List.length_append, List.length_take, List.length_singleton, List.length_drop]; omega) (fun p11 H11 f11 h11 => ?_)
            have f111 : Frm [] H1 H11 := by wtm_at "fr"
            have f0 : Frm [] H H11 := f01.trans f111
            refine q _ H11 f0 ?_
            have e7 : H11 p7 = some (.tup [x0, x1, x2, v]) := by
              have := f11.get0 (f10.get0 (f9.get0 (f8.get0 h7)))
              exact this
            rw [exB_at e1 hcs]
            have dv' := dv.frm f111
            refine .tup h11 ?_
            rw [encB_map, List.map_append, List.map_append, List.map_take, List.map_drop, ← encB_map]
            refine ((dX.frm f0).take k).app (.one (.tup e7 ?_)) |>.app ((dX.frm f0).drop (k + 1))
            exact .cons (d0.frm f0) (.cons (d1.frm f0) (.cons (d2.frm f0) (.cons dv' (.nil))))
          · rw [if_neg h0] at hcs'; cases hcs'
end

def VarsOk (kv : List (Key × V)) (m : Str → Int) : Prop := ∀ x : Str, (valV kv (Sum.inr x)).getD (.int 0) = .int (m x)
def InR (m : Str → Int) : Prop := ∀ x, 0 ≤ m x ∧ m x < BIG
theorem num_range {m : Str → Int} (hm : InR m) : ∀ v : Val, goodV v → 0 ≤ num m v ∧ num m v < BIG
  | .num n, h => h
  | .nam x, _ => hm x
  | .op s l r, h => by
    simp only [num]
    have hb : (0 : Int) < BIG := by decide
    have hm1 : ∀ z : Int, 0 ≤ z % BIG ∧ z % BIG < BIG := fun z => ⟨Int.emod_nonneg _ (by decide), Int.emod_lt_of_pos _ hb⟩
    split
    · split <;> decide
    · split
      · split <;> decide
      · split
        · exact hm1 _
        · split
          · exact hm1 _
          · exact hm1 _
theorem sg1 : ¬ (kS "-" = kS "+") ∧ ¬ (kS "*" = kS "+") ∧ ¬ (kS "+" = kS "-") ∧ ¬ (kS "*" = kS "-") ∧ ¬ (kS "+" = kS "*") ∧ ¬ (kS "-" = kS "*") := by decide +kernel
theorem res_at (a b c : V) : valV (mergeK [] [(kS "+", a), (kS "-", b), (kS "*", c)]) (kS "+") = some a ∧ valV (mergeK [] [(kS "+", a), (kS "-", b), (kS "*", c)]) (kS "-") = some b ∧ valV (mergeK [] [(kS "+", a), (kS "-", b), (kS "*", c)]) (kS "*") = some c := by
  obtain ⟨a1, a2, a3, a4, a5, a6⟩ := sg1
  refine ⟨?_, ?_, ?_⟩ <;> simp only [mergeK, List.foldl_cons, List.foldl_nil, valV_put, a1, a2, a3, a4, a5, a6, if_false, if_true]
theorem sgn : ¬ (("+" : Str) = "<") ∧ ¬ (("+" : Str) = "==") ∧ ¬ (("-" : Str) = "<") ∧ ¬ (("-" : Str) = "==") ∧ ¬ (("-" : Str) = "+") ∧ ¬ (("*" : Str) = "<") ∧ ¬ (("*" : Str) = "==") ∧ ¬ (("*" : Str) = "+") ∧ ¬ (("*" : Str) = "-") ∧ ¬ (("==" : Str) = "<") := by decide +kernel
section
variable {P : Program} {w : World} {K : PySem.W.Frag} {mg : Str → Option Value} {base : Heap}
abbrev sLawNum : Stmt := top 63
theorem scLawNum : FnScope ["_law_tree_here", "_law_variables", "_law_left", "_law_right", "_law_results"] ["_law_tree_here", "_law_variables"] (defScope sLawNum) := ⟨rfl, rfl, rfl, by decide +kernel, rfl, by decide +kernel, by decide +kernel⟩
def pLNum (n : Nat) (tr vr : V) (H : Hp) (Q : VK) (_ : XK) : Prop := ∃ (v : Val) (dv : Addr) (kv : List (Key × V)) (m : Str → Int), D H tr (encV v) ∧ goodV v ∧ dpV v < n ∧ vr = .ref dv ∧ H dv = some (.dK kv) ∧ VarsOk kv m ∧ InR m ∧ ∀ H2, Frm [] H H2 → Q (.int (num m v)) H2
theorem decII {a b : Int} : decide (V.int a = V.int b) = decide (a = b) := by
  by_cases h : a = b
  · subst h; simp
  · rw [decide_eq_false h, decide_eq_false (fun q => h (V.int.inj q))]
theorem ok_lnum (T : Tx K mg) (A : At K mg "_law_num" sLawNum ["_law_tree_here", "_law_variables"]) : ∀ n, Has P w K mg base CX0 "_law_num" ["_law_tree_here", "_law_variables"] (n + 1) (sp2 (pLNum n))
  | 0 => has_no A fun vs H Q E h => by obtain ⟨_, _, _, _, _, _, _, _, _, h, _⟩ := h; exact absurd h (Nat.not_lt_zero _)
  | n + 1 => by
    have C__law_num := ok_lnum T A n
    refine has_mk A scLawNum (fun vs H Q E h => by obtain ⟨_, _, rfl, _⟩ := h; rfl) fun f cdv A outer s H vs Q E hr h => ?_
    obtain ⟨tr, vr, rfl, v, dv, kv, m, dV, hg, hd, rfl, hdv, hv, hm, q⟩ := h
    refine ⟨_, (pss_cons (ps_if (pt_cmpR op_eq (pe_ix ix_tup (pv 0) pe_int (fun _ _ => rfl)) pe_str (nomark _)) (pss_one (ps_ret (pe_ix ix_tup (pv 0) pe_int (fun _ _ => rfl)))) pss_nil) (pss_cons (ps_if (pt_cmpR op_eq (pe_ix ix_tup (pv 0) pe_int (fun _ _ => rfl)) pe_str (nomark _)) (pss_one (ps_ret (pe_dget2 (hu_of hr) (pv 1) (pe_ix ix_tup (pv 0) pe_int (fun _ _ => rfl)) pe_int ⟨rfl, rfl, rfl, rfl⟩))) pss_nil) (pss_cons (ps_set (i := 2) scLawNum.nd rfl (Or.inl rfl) (pe_h0 C__law_num (hr.mono (by omega)) (pa_cons (pe_ix ix_tup (pv 0) pe_int (fun _ _ => rfl)) (pa_cons (pv 1) pa_nil)))) (pss_cons (ps_set (i := 3) scLawNum.nd rfl (Or.inl rfl) (pe_h0 C__law_num (hr.mono (by omega)) (pa_cons (pe_ix ix_tup (pv 0) pe_int (fun _ _ => rfl)) (pa_cons (pv 1) pa_nil)))) (pss_cons (ps_if (pt_cmpR op_eq (pe_ix ix_tup (pv 0) pe_int (fun _ _ => rfl)) pe_str (nomark _)) (pss_one (ps_ret (pe_ifExp (pt_cmpR k_lt (pv 2) (pv 3) (nomark _)) pe_int pe_int))) pss_nil) (pss_cons (ps_if (pt_cmpR op_eq (pe_ix ix_tup (pv 0) pe_int (fun _ _ => rfl)) pe_str (nomark _)) (pss_one (ps_ret (pe_ifExp (pt_cmpR op_eq (pv 2) (pv 3) (nomark _)) pe_int pe_int))) pss_nil) (pss_cons (ps_set (i := 4) scLawNum.nd rfl (Or.inl rfl) (pe_disp (pps_cons pe_str (pe_op k_add (pv 2) (pv 3)) (pps_cons pe_str (pe_op k_sub (pv 2) (pv 3)) (pps_cons pe_str (pe_op k_mul (pv 2) (pv 3)) pps_nil))) (by rfl) (by rfl) (fun z => by cases z) (by decide))) (pss_one (ps_ret (pe_op k_mod (pe_callTy k_int1 (by rfl) T.int (by decide +kernel) (pa_cons (pe_dget (hu_of hr) (pv 4) (pe_ix ix_tup (pv 0) pe_int (fun _ _ => rfl)) (fun _ _ => rfl)) pa_nil)) pe_int)))))))))), ?_⟩
    wtm_at "kk"
    refine g_st (σ' := [some (tr), some (.ref dv), none, none, none]) rfl ?_
    cases v with
    | num z =>
      obtain ⟨b1, x0, x1, rfl, hb1, d0, d1⟩ := D.t2 dV
      cases d0
      cases d1
      wtm_at "go"
      exact q H (Frm.refl _ _)
    | nam x =>
      obtain ⟨b1, x0, x1, rfl, hb1, d0, d1⟩ := D.t2 dV
      cases d0
      cases d1
      wtm_at "go"
      refine ⟨.ref dv, rfl, dv, rfl, .inl ⟨kv, .inl hdv⟩, ?_⟩
      wtm_at "go"
      refine ⟨_, DGet.k (k := Sum.inr x) hdv, ?_⟩
      rw [hv x]
      exact q H (Frm.refl _ _)
    | op sg l r =>
      obtain ⟨b1, x0, x1, x2, rfl, hb1, d0, d1, d2⟩ := D.t3 dV
      cases d0
      obtain ⟨g0, g1, g2⟩ := hg
      simp only [dpV] at hd
      have r1 := num_range hm l g1
      have r2 := num_range hm r g2
      have hB : BIG = 4294967296 := rfl
      simp only [signs, List.mem_cons, List.not_mem_nil, or_false] at g0
      obtain ⟨k1, k2, k3, k4, k5, k6, k7, k8, k9, k10⟩ := sgn
      rcases g0 with rfl | rfl | rfl | rfl | rfl
      · wtm_at "go"
        refine to2 ⟨l, dv, kv, m, d1, g1, by omega, rfl, hdv, hv, hm, fun H2 f2 => ?_⟩
        wtm_at "go"
        refine to2 ⟨r, dv, kv, m, d2.frm f2, g2, by omega, rfl, f2.get0 hdv, hv, hm, fun H3 f3 => ?_⟩
        wtm_at "go"
        refine fun p hp => ?_
        dsimp only [tPairs, tC, tVar, tOp]
        refine ⟨_, rfl, _, rfl, g_add ?_⟩
        refine ⟨_, rfl, _, rfl, g_sub ?_⟩
        refine ⟨_, rfl, _, rfl, g_mul (.inr ⟨by omega, by omega⟩) ?_⟩
        refine ⟨upd_same, [(kS "+", .int (num m l + num m r)), (kS "-", .int (num m l - num m r)), (kS "*", .int (num m l * num m r))], rfl, Nat.le_of_ble_eq_true rfl, ?_⟩
        have f4 : Frm [] H3 (upd (upd H3 p (.dK [])) p (.dK (mergeK [] [(kS "+", .int (num m l + num m r)), (kS "-", .int (num m l - num m r)), (kS "*", .int (num m l * num m r))]))) := (Frm.new (o := .dK []) hp).loc hp
        have hR : upd (upd H3 p (.dK [])) p (.dK (mergeK [] [(kS "+", .int (num m l + num m r)), (kS "-", .int (num m l - num m r)), (kS "*", .int (num m l * num m r))])) p = _ := upd_same
        generalize upd (upd H3 p (.dK [])) p (.dK (mergeK [] [(kS "+", .int (num m l + num m r)), (kS "-", .int (num m l - num m r)), (kS "*", .int (num m l * num m r))])) = H4 at f4 hR ⊢
        wtm_at "go"
        refine g_dgetS hR (res_at _ _ _).1 ?_
        wtm_at "go"
        refine g_mod (by decide) ?_
        have := q H4 ((f2.trans f3).trans f4)
        simp only [num, k1, k2, if_false, if_true] at this
        exact this
      · wtm_at "go"
        refine to2 ⟨l, dv, kv, m, d1, g1, by omega, rfl, hdv, hv, hm, fun H2 f2 => ?_⟩
        wtm_at "go"
        refine to2 ⟨r, dv, kv, m, d2.frm f2, g2, by omega, rfl, f2.get0 hdv, hv, hm, fun H3 f3 => ?_⟩
        wtm_at "go"
        refine fun p hp => ?_
        dsimp only [tPairs, tC, tVar, tOp]
        refine ⟨_, rfl, _, rfl, g_add ?_⟩
        refine ⟨_, rfl, _, rfl, g_sub ?_⟩
        refine ⟨_, rfl, _, rfl, g_mul (.inr ⟨by omega, by omega⟩) ?_⟩
        refine ⟨upd_same, [(kS "+", .int (num m l + num m r)), (kS "-", .int (num m l - num m r)), (kS "*", .int (num m l * num m r))], rfl, Nat.le_of_ble_eq_true rfl, ?_⟩
        have f4 : Frm [] H3 (upd (upd H3 p (.dK [])) p (.dK (mergeK [] [(kS "+", .int (num m l + num m r)), (kS "-", .int (num m l - num m r)), (kS "*", .int (num m l * num m r))]))) := (Frm.new (o := .dK []) hp).loc hp
        have hR : upd (upd H3 p (.dK [])) p (.dK (mergeK [] [(kS "+", .int (num m l + num m r)), (kS "-", .int (num m l - num m r)), (kS "*", .int (num m l * num m r))])) p = _ := upd_same
        generalize upd (upd H3 p (.dK [])) p (.dK (mergeK [] [(kS "+", .int (num m l + num m r)), (kS "-", .int (num m l - num m r)), (kS "*", .int (num m l * num m r))])) = H4 at f4 hR ⊢
        wtm_at "go"
        refine g_dgetS hR (res_at _ _ _).2.1 ?_
        wtm_at "go"
        refine g_mod (by decide) ?_
        have := q H4 ((f2.trans f3).trans f4)
        simp only [num, k3, k4, k5, if_false, if_true] at this
        exact this
      · wtm_at "go"
        refine to2 ⟨l, dv, kv, m, d1, g1, by omega, rfl, hdv, hv, hm, fun H2 f2 => ?_⟩
        wtm_at "go"
        refine to2 ⟨r, dv, kv, m, d2.frm f2, g2, by omega, rfl, f2.get0 hdv, hv, hm, fun H3 f3 => ?_⟩
        wtm_at "go"
        refine fun p hp => ?_
        dsimp only [tPairs, tC, tVar, tOp]
        refine ⟨_, rfl, _, rfl, g_add ?_⟩
        refine ⟨_, rfl, _, rfl, g_sub ?_⟩
        refine ⟨_, rfl, _, rfl, g_mul (.inr ⟨by omega, by omega⟩) ?_⟩
        refine ⟨upd_same, [(kS "+", .int (num m l + num m r)), (kS "-", .int (num m l - num m r)), (kS "*", .int (num m l * num m r))], rfl, Nat.le_of_ble_eq_true rfl, ?_⟩
        have f4 : Frm [] H3 (upd (upd H3 p (.dK [])) p (.dK (mergeK [] [(kS "+", .int (num m l + num m r)), (kS "-", .int (num m l - num m r)), (kS "*", .int (num m l * num m r))]))) := (Frm.new (o := .dK []) hp).loc hp
        have hR : upd (upd H3 p (.dK [])) p (.dK (mergeK [] [(kS "+", .int (num m l + num m r)), (kS "-", .int (num m l - num m r)), (kS "*", .int (num m l * num m r))])) p = _ := upd_same
        generalize upd (upd H3 p (.dK [])) p (.dK (mergeK [] [(kS "+", .int (num m l + num m r)), (kS "-", .int (num m l - num m r)), (kS "*", .int (num m l * num m r))])) = H4 at f4 hR ⊢
        wtm_at "go"
        refine g_dgetS hR (res_at _ _ _).2.2 ?_
        wtm_at "go"
        refine g_mod (by decide) ?_
        have := q H4 ((f2.trans f3).trans f4)
        simp only [num, k6, k7, k8, k9, if_false, if_true] at this
        exact this
      · wtm_at "go"
        refine to2 ⟨l, dv, kv, m, d1, g1, by omega, rfl, hdv, hv, hm, fun H2 f2 => ?_⟩
        wtm_at "go"
        refine to2 ⟨r, dv, kv, m, d2.frm f2, g2, by omega, rfl, f2.get0 hdv, hv, hm, fun H3 f3 => ?_⟩
        wtm_at "go"
        refine g_ite (fun z => ?_) fun z => ?_
        · wtm_at "go"
          have := q H3 (f2.trans f3)
          simp only [num, if_true, if_pos (of_decide_eq_true z)] at this
          exact this
        · wtm_at "go"
          have := q H3 (f2.trans f3)
          simp only [num, if_true, if_neg (of_decide_eq_false z)] at this
          exact this
      · wtm_at "go"
        refine to2 ⟨l, dv, kv, m, d1, g1, by omega, rfl, hdv, hv, hm, fun H2 f2 => ?_⟩
        wtm_at "go"
        refine to2 ⟨r, dv, kv, m, d2.frm f2, g2, by omega, rfl, f2.get0 hdv, hv, hm, fun H3 f3 => ?_⟩
        wtm_at "go"
        rw [decII]
        refine g_ite (fun z => ?_) fun z => ?_
        · wtm_at "go"
          have := q H3 (f2.trans f3)
          simp only [num, k10, if_false, if_true, if_pos (of_decide_eq_true z)] at this
          exact this
        · wtm_at "go"
          have := q H3 (f2.trans f3)
          simp only [num, k10, if_false, if_true, if_neg (of_decide_eq_false z)] at this
          exact this
end

theorem pathsB_snoc (a : List Stm) (s : Stm) : ∀ k, pathsB k (a ++ [s]) = pathsB k a ++ ([k + a.length] :: pathsS (k + a.length) s) := by
  induction a with
  | nil => intro k; simp [pathsB]
  | cons x r ih =>
    intro k
    simp only [List.cons_append, pathsB, ih, List.length_cons, List.append_assoc]
    rw [show k + 1 + r.length = k + (r.length + 1) from by omega]
/-- the paths into the first j inner blocks -/
def pathsJ (k : Nat) (s : Stm) (j : Nat) : List (List Nat) := (List.range j).flatMap fun i => match (inn s)[i]? with
  | some c => (pathsB 0 c).map fun p => k :: i :: p
  | none => []
theorem pathsS_J (k : Nat) (s : Stm) : pathsS k s = pathsJ k s (inn s).length := by
  cases s <;> simp [pathsS, pathsJ, inn, List.range_succ]
theorem pathsJ_succ (k : Nat) (s : Stm) (j : Nat) (c : List Stm) (h : (inn s)[j]? = some c) : pathsJ k s (j + 1) = pathsJ k s j ++ (pathsB 0 c).map fun p => k :: j :: p := by
  unfold pathsJ
  rw [List.range_succ, List.flatMap_append]
  simp [h]
theorem isPath_len : ∀ (p : List Nat) (b : List Stm), isPath b p = true → p.length ≤ 2 * dpB b + 1
  | [], b, _ => Nat.zero_le _
  | [k], b, _ => by simp
  | k :: j :: r, b, h => by
    have h' : (match inner b k j with | none => false | some c => isPath c r) = true := h
    cases hin : inner b k j with
    | none => rw [hin] at h'; cases h'
    | some c =>
      rw [hin] at h'
      obtain ⟨sm, e1, hcs, hmem⟩ := inner_mem hin
      have h1 := dp_mem (List.mem_of_getElem? e1)
      have h2 := dp_inn hmem
      have h3 := isPath_len r c h'
      simp only [List.length_cons]
      omega
theorem pathsB_long : ∀ (b : List Stm) (k : Nat) (p : List Nat), p ∈ pathsB k b → p.length ≤ 2 * dpB b + 1 := by
  intro b k p h
  obtain ⟨i, q, rfl, hq⟩ := (mem_pathsB b k p).mp h
  have := isPath_len _ b hq
  simpa using this
mutual
theorem pathsS_len : ∀ (s : Stm) (k : Nat), (pathsS k s).length + 1 = s.sz
  | .ite e v y n, k => by simp [pathsS, Stm.sz, pathsB_len y, pathsB_len n]; omega
  | .whl e v b, k => by simp [pathsS, Stm.sz, pathsB_len b]; omega
  | .msg _ _ _ _ _, _ => rfl
  | .set _ _ _, _ => rfl
  | .ask _ _, _ => rfl
  | .call _ _, _ => rfl
theorem pathsB_len : ∀ (b : List Stm) (k : Nat), (pathsB k b).length = szB b
  | [], _ => rfl
  | s :: r, k => by
    have := pathsS_len s k
    simp [pathsB, szB, pathsB_len r]; omega
end
section
variable {P : Program} {w : World} {K : PySem.W.Frag} {mg : Str → Option Value} {base : Heap}
abbrev sLawPaths : Stmt := top 67
theorem scLawPaths : FnScope ["_law_block_here", "_law_found", "_law_k", "_law_j", "_law_path"] ["_law_block_here"] (defScope sLawPaths) := ⟨rfl, rfl, rfl, by decide +kernel, rfl, by decide +kernel, by decide +kernel⟩
def pPaths (n : Nat) (bl : V) (H : Hp) (Q : VK) (_ : XK) : Prop := ∃ b : List Stm, D H bl (encBT b) ∧ dpB b < n ∧ dpB b ≤ 100 ∧ szB b ≤ 400000 ∧ ∀ l H2 vs, H l = none → Frm [] H H2 → H2 l = some (.lst vs) → DL H2 vs ((pathsB 0 b).map encPath) → Q (.ref l) H2
theorem ok_paths (T : Tx K mg) (A : At K mg "_law_paths" sLawPaths ["_law_block_here"]) : ∀ n, Has P w K mg base CX0 "_law_paths" ["_law_block_here"] (n + 1) (sp1 (pPaths n))
  | 0 => has_no A fun vs H Q E h => by obtain ⟨_, _, _, _, h, _⟩ := h; exact absurd h (Nat.not_lt_zero _)
  | n + 1 => by
    have C__law_paths := ok_paths T A n
    refine has_mk A scLawPaths (fun vs H Q E h => by obtain ⟨_, rfl, _⟩ := h; rfl) fun f cdv A outer s H vs Q E hr h => ?_
    obtain ⟨bl, rfl, b, dB, hd, hd1, hz, q⟩ := h
    obtain ⟨ab, xs, rfl, hb, dX⟩ := dB.tupE
    have hxl := dX.encLen
    have hbl := len_le_szB b
    refine ⟨_, (pss_cons (ps_set (i := 1) scLawPaths.nd rfl (Or.inl rfl) (pe_lst pa_nil)) (pss_cons (ps_for PassesOwn.never rfl (pi_range1 (by rfl) T.range (pa_cons (pe_callB k_len (by rfl) T.len PySem.boot_len (pa_cons (pv 0) pa_nil)) pa_nil)) (pg_name (i := 2) scLawPaths.nd rfl (Or.inr rfl)) (pss_cons (ps_expr (pe_bm PySem.F.plainAttrs_list PySem.F.slot_list_append PySem.F.type_list_append mt_append (pv 1) (pa_cons (pe_tup (pa_cons (pv 2) pa_nil)) pa_nil))) (pss_one (ps_if (pt_cmpR op_in_seq (pe_ix ix_tup (pe_ix ix_tup (pv 0) (pv 2) (fun _ _ => rfl)) pe_int (fun _ _ => rfl)) (pe_lst (pa_cons pe_str (pa_cons pe_str pa_nil))) (by rfl)) (pss_one (ps_for PassesOwn.never rfl (pi_range1 (by rfl) T.range (pa_cons (pe_op k_sub (pe_callB k_len (by rfl) T.len PySem.boot_len (pa_cons (pe_ix ix_tup (pv 0) (pv 2) (fun _ _ => rfl)) pa_nil)) pe_int) pa_nil)) (pg_name (i := 3) scLawPaths.nd rfl (Or.inr rfl)) (pss_one (ps_set (i := 1) scLawPaths.nd rfl (Or.inl rfl) (pe_op op_cat (pv 1) (pe_lc (own := [("_law_path", 4)]) rfl scLawPaths.nd (pi_list (pe_h0 C__law_paths (hr.mono (by omega)) (pa_cons (pe_ix ix_tup (pe_ix ix_tup (pv 0) (pv 2) (fun _ _ => rfl)) (pe_op k_add pe_int (pv 3)) (fun _ _ => rfl)) pa_nil))) (blkOk_by (own := [("_law_path", 4)]) (N := ["_law_block_here", "_law_found", "_law_k", "_law_j", "_law_path"]) (sc := defScope sLawPaths) (by decide +kernel)) (fun _ _ _ _ _ => (pg_name (i := 4) scLawPaths.nd rfl (Or.inl rfl))) (fun _ _ _ _ _ => pts_nil) (fun _ _ _ _ _ => (pe_op (b_catT K) (pe_tup (pa_cons (pv 2) (pa_cons (pv 3) pa_nil))) (pv 4))))))))) pss_nil)))) (pss_one (ps_ret (pv 1))))), ?_⟩
    wtm_at "kk"
    refine g_st (σ' := [some (.ref ab), none, none, none, none]) rfl ?_
    wtm_at "go"
    rename_i l0 H1 nn0 f1 h0
    refine g_kR (by omega) ?_
    refine KForJ.mk (walk_range (lo := 0) (n := xs.length)) (fun i σ H' => ∃ lf x2 x3 x4, σ = [some (.ref ab), some (.ref lf), x2, x3, x4] ∧ H lf = none ∧ LI [] H lf ((pathsB 0 (b.take i)).map encPath) H')
      ⟨l0, none, none, none, rfl, nn0, .new f1 h0⟩ (fun _ _ _ _ _ => trivial) (fun i y σ H3 H2 hi h yy => ?_) (fun σ H' h => ?_)
    · obtain ⟨rfl, rfl⟩ := yy
      obtain ⟨lf, x2, x3, x4, rfl, n0, hL⟩ := h
      have fH := hL.fr
      have hx : xs[i]? = some xs[i] := List.getElem?_eq_getElem hi
      generalize xs[i] = x at hx
      obtain ⟨sm, hs, dS⟩ := (dX.frm fH).stm hx
      have hsm := List.mem_of_getElem? hs
      have hdp := dp_mem hsm
      have hzt : szB (b.take i) + sm.sz ≤ szB b := by
        have := szB_take b (i + 1)
        rw [take_snoc hs, szB_snoc] at this
        exact this
      have hti : (b.take i).length = i := by rw [List.length_take]; omega
      obtain ⟨us, hu, du⟩ := hL.at_
      have hul : us.length = szB (b.take i) := by rw [du.len, List.length_map, pathsB_len]
      have hp0 := sz_pos sm
      dsimp only
      rw [Int.zero_add]
      wtm_at "go"
      rename_i pk H3 n3 f3 h3
      refine g_app (f3.get0 hu) (by omega) ?_
      have hL3 := (hL.frm f3).app n0 (f3.get0 hu) (d := encPath [i]) (D.ofPath (p := [i]) h3)
      have fu : Frm [lf] H3 (upd H3 lf (.lst (us ++ [.ref pk]))) := Frm.mut List.mem_cons_self (f3.get0 hu) nt_lst
      have hb4 := fu.tupS (f3.get0 (fH.get0 hb))
      generalize upd H3 lf (.lst (us ++ [.ref pk])) = H4 at hL3 fu hb4 ⊢
      have hL4 := hL3
      wtm_at "go"
      refine g_ixT hb4 (atI_nat hx) ?_
      cases sm with
      | msg f t l v w =>
        obtain ⟨b1, x0, x1, x2, x3, x4, x5, rfl, hb1, d0, d1, d2, d3, d4, d5⟩ := D.t6 dS
        cases d0
        wtm_at "go"
        rename_i pL H6 nL fL hLst
        refine g_inL hLst rfl rfl ?_
        rw [show inV (.str "message") [.str "if", .str "while"] = false from by decide +kernel]
        wtm_at "go"
        refine ⟨lf, _, _, _, rfl, n0, ?_⟩
        rw [take_snoc hs, pathsB_snoc, Nat.zero_add, hti]
        simpa [pathsS] using hL4.frm fL
      | set a w v =>
        obtain ⟨b1, x0, x1, x2, x3, rfl, hb1, d0, d1, d2, d3⟩ := D.t4 dS
        cases d0
        wtm_at "go"
        rename_i pL H6 nL fL hLst
        refine g_inL hLst rfl rfl ?_
        rw [show inV (.str "set") [.str "if", .str "while"] = false from by decide +kernel]
        wtm_at "go"
        refine ⟨lf, _, _, _, rfl, n0, ?_⟩
        rw [take_snoc hs, pathsB_snoc, Nat.zero_add, hti]
        simpa [pathsS] using hL4.frm fL
      | ask a w =>
        obtain ⟨b1, x0, x1, x2, rfl, hb1, d0, d1, d2⟩ := D.t3 dS
        cases d0
        wtm_at "go"
        rename_i pL H6 nL fL hLst
        refine g_inL hLst rfl rfl ?_
        rw [show inV (.str "ask") [.str "if", .str "while"] = false from by decide +kernel]
        wtm_at "go"
        refine ⟨lf, _, _, _, rfl, n0, ?_⟩
        rw [take_snoc hs, pathsB_snoc, Nat.zero_add, hti]
        simpa [pathsS] using hL4.frm fL
      | call a w =>
        obtain ⟨b1, x0, x1, x2, rfl, hb1, d0, d1, d2⟩ := D.t3 dS
        cases d0
        wtm_at "go"
        rename_i pL H6 nL fL hLst
        refine g_inL hLst rfl rfl ?_
        rw [show inV (.str "call") [.str "if", .str "while"] = false from by decide +kernel]
        wtm_at "go"
        refine ⟨lf, _, _, _, rfl, n0, ?_⟩
        rw [take_snoc hs, pathsB_snoc, Nat.zero_add, hti]
        simpa [pathsS] using hL4.frm fL
      | ite ev v y n =>
        obtain ⟨b1, x0, x1, x2, x3, x4, rfl, hb1, d0, d1, d2, d3, d4⟩ := D.t5 dS
        cases d0
        wtm_at "go"
        rename_i pL H6 nL fL hLst
        refine g_inL hLst rfl rfl ?_
        rw [show inV (.str "if") [.str "if", .str "while"] = true from by decide +kernel]
        have hL6 := hL4.frm fL
        have f06 := hL6.fr
        have hb6 := f06.get0 hb
        have hs6 := fL.get0 (fu.tupS (f3.get0 hb1))
        have hsz1 : szB (b.take i) + (Stm.ite ev v y n).sz ≤ szB b := hzt
        wtm_at "go"
        refine g_ixT hb6 (atI_nat hx) ?_
        wtm_at "go"
        refine g_kR (n := 2) (by decide) ?_
        refine KForJ.mk (walk_range (lo := 0) (n := 2)) (fun j σ H' => ∃ lf x3 x4, σ = [some (.ref ab), some (.ref lf), some (.int (i : Nat)), x3, x4] ∧ H lf = none ∧ Frm [] H6 H' ∧ LI [] H lf ((pathsB 0 (b.take i) ++ ([i] :: pathsJ i (.ite ev v y n) j)).map encPath) H')
          ⟨lf, _, _, rfl, n0, Frm.refl _ _, by simpa [pathsJ] using hL6⟩ (fun _ _ _ _ _ => trivial) (fun j y' σ H8 H7 hj h yy => ?_) (fun σ H7 h => ?_)
        · obtain ⟨rfl, rfl⟩ := yy
          obtain ⟨lf, x3, x4, rfl, n0, f7, hL7⟩ := h
          obtain ⟨us, hu, du⟩ := hL7.at_
          have hul : us.length = (pathsB 0 (b.take i) ++ ([i] :: pathsJ i (Stm.ite ev v y n) j)).length := by rw [du.len, List.length_map]
          have hb7 := f7.get0 hb6
          have hs7 := f7.get0 hs6
          dsimp only
          rw [Int.zero_add]
          have hj2 : j = 0 ∨ j = 1 := by omega
          rcases hj2 with rfl | rfl
          · skip
            have hc : (inn (Stm.ite ev v y n))[0]? = some y := rfl
            have zc := dp_inn (List.mem_of_getElem? hc)
            have sc := sz_innM (List.mem_of_getElem? hc)
            have hpj : (pathsJ i (Stm.ite ev v y n) 0).length + szB y ≤ (Stm.ite ev v y n).sz := by
              simp [pathsJ, inn, List.range_succ, Stm.sz, pathsB_len]; try omega
            wtm_at "go"
            refine g_ixT hb7 (atI_nat hx) ?_
            wtm_at "go"
            refine g_ixT hs7 (at3 rfl) ?_
            wtm_at "go"
            refine to1 ⟨y, (((d3.frm f3).frm fu).frm fL).frm f7, by omega, by omega, by omega, fun l1 H9 vs n9 f9 h9 d9 => ?_⟩
            have hvl : vs.length = szB y := by rw [d9.len, List.length_map, pathsB_len]
            wtm_at "go"
            refine KLc.mapL h9 (((pathsB 0 y).map fun p => i :: 0 :: p).map encPath) (by simp [hvl, pathsB_len]) (by omega) (fun i2 x9 Hc Dr N d hx2 hd2 fc kc => ?_) (fun l2 H10 ys n10 f10 h10 dl => ?_)
            · obtain ⟨dd, hdd, dp⟩ := (d9.frm fc).getV hx2
              rw [List.getElem?_map] at hdd
              rw [List.getElem?_map, List.getElem?_map] at hd2
              cases hpp : (pathsB 0 y)[i2]? with
              | none => rw [hpp] at hdd; cases hdd
              | some pp =>
                rw [hpp] at hdd hd2
                obtain rfl := Option.some.inj hdd
                obtain rfl := Option.some.inj hd2
                have hpm := pathsB_long y 0 pp (List.mem_of_getElem? hpp)
                obtain ⟨ap, rfl, hap⟩ := dp.path
                wtm_at "wi"
                wtm_at "go"
                rename_i pt Ht nt ft ht
                refine g_catT ht (ft.get0 hap) (by rw [List.length_map]; simp only [List.length_cons, List.length_nil]; omega) (fun pz Hz fz hz => ?_)
                exact kc _ _ (ft.trans fz) (D.ofPath (by rw [hz]; rfl))
            · have hyl : ys.length = szB y := by rw [dl.len, List.length_map, List.length_map, pathsB_len]
              have hpl2 := pathsB_len (b.take i) 0
              wtm_at "go"
              refine g_catL (f10.get0 (f9.get0 hu)) h10 (by rw [hul, hyl, List.length_append, List.length_cons, hpl2]; omega) (fun l3 H11 n11 f11 h11 => ?_)
              wtm_at "go"
              have f711 := (f9.trans f10).trans f11
              refine ⟨l3, _, _, rfl, hL7.fr.back0 (f9.back0 (f10.back0 n11)), f7.trans f711, ⟨hL7.fr.trans f711, _, h11, ?_⟩⟩
              rw [pathsJ_succ i _ 0 y hc, ← List.cons_append, ← List.append_assoc, List.map_append]
              exact (du.frm f711).app (dl.frm f11)
          · skip
            have hc : (inn (Stm.ite ev v y n))[1]? = some n := rfl
            have zc := dp_inn (List.mem_of_getElem? hc)
            have sc := sz_innM (List.mem_of_getElem? hc)
            have hpj : (pathsJ i (Stm.ite ev v y n) 1).length + szB n ≤ (Stm.ite ev v y n).sz := by
              simp [pathsJ, inn, List.range_succ, Stm.sz, pathsB_len]; try omega
            wtm_at "go"
            refine g_ixT hb7 (atI_nat hx) ?_
            wtm_at "go"
            refine g_ixT hs7 (at4 rfl) ?_
            wtm_at "go"
            refine to1 ⟨n, (((d4.frm f3).frm fu).frm fL).frm f7, by omega, by omega, by omega, fun l1 H9 vs n9 f9 h9 d9 => ?_⟩
            have hvl : vs.length = szB n := by rw [d9.len, List.length_map, pathsB_len]
            wtm_at "go"
            refine KLc.mapL h9 (((pathsB 0 n).map fun p => i :: 1 :: p).map encPath) (by simp [hvl, pathsB_len]) (by omega) (fun i2 x9 Hc Dr N d hx2 hd2 fc kc => ?_) (fun l2 H10 ys n10 f10 h10 dl => ?_)
            · obtain ⟨dd, hdd, dp⟩ := (d9.frm fc).getV hx2
              rw [List.getElem?_map] at hdd
              rw [List.getElem?_map, List.getElem?_map] at hd2
              cases hpp : (pathsB 0 n)[i2]? with
              | none => rw [hpp] at hdd; cases hdd
              | some pp =>
                rw [hpp] at hdd hd2
                obtain rfl := Option.some.inj hdd
                obtain rfl := Option.some.inj hd2
                have hpm := pathsB_long n 0 pp (List.mem_of_getElem? hpp)
                obtain ⟨ap, rfl, hap⟩ := dp.path
                wtm_at "wi"
                wtm_at "go"
                rename_i pt Ht nt ft ht
                refine g_catT ht (ft.get0 hap) (by rw [List.length_map]; simp only [List.length_cons, List.length_nil]; omega) (fun pz Hz fz hz => ?_)
                exact kc _ _ (ft.trans fz) (D.ofPath (by rw [hz]; rfl))
            · have hyl : ys.length = szB n := by rw [dl.len, List.length_map, List.length_map, pathsB_len]
              have hpl2 := pathsB_len (b.take i) 0
              wtm_at "go"
              refine g_catL (f10.get0 (f9.get0 hu)) h10 (by rw [hul, hyl, List.length_append, List.length_cons, hpl2]; omega) (fun l3 H11 n11 f11 h11 => ?_)
              wtm_at "go"
              have f711 := (f9.trans f10).trans f11
              refine ⟨l3, _, _, rfl, hL7.fr.back0 (f9.back0 (f10.back0 n11)), f7.trans f711, ⟨hL7.fr.trans f711, _, h11, ?_⟩⟩
              rw [pathsJ_succ i _ 1 n hc, ← List.cons_append, ← List.append_assoc, List.map_append]
              exact (du.frm f711).app (dl.frm f11)
        · obtain ⟨lf, x3, x4, rfl, n0, f7, hL7⟩ := h
          refine ⟨lf, _, _, _, rfl, n0, ?_⟩
          rw [take_snoc hs, pathsB_snoc, Nat.zero_add, hti, pathsS_J]
          exact hL7
      | whl ev v y =>
        obtain ⟨b1, x0, x1, x2, x3, rfl, hb1, d0, d1, d2, d3⟩ := D.t4 dS
        cases d0
        wtm_at "go"
        rename_i pL H6 nL fL hLst
        refine g_inL hLst rfl rfl ?_
        rw [show inV (.str "while") [.str "if", .str "while"] = true from by decide +kernel]
        have hL6 := hL4.frm fL
        have f06 := hL6.fr
        have hb6 := f06.get0 hb
        have hs6 := fL.get0 (fu.tupS (f3.get0 hb1))
        have hsz1 : szB (b.take i) + (Stm.whl ev v y).sz ≤ szB b := hzt
        wtm_at "go"
        refine g_ixT hb6 (atI_nat hx) ?_
        wtm_at "go"
        refine g_kR (n := 1) (by decide) ?_
        refine KForJ.mk (walk_range (lo := 0) (n := 1)) (fun j σ H' => ∃ lf x3 x4, σ = [some (.ref ab), some (.ref lf), some (.int (i : Nat)), x3, x4] ∧ H lf = none ∧ Frm [] H6 H' ∧ LI [] H lf ((pathsB 0 (b.take i) ++ ([i] :: pathsJ i (.whl ev v y) j)).map encPath) H')
          ⟨lf, _, _, rfl, n0, Frm.refl _ _, by simpa [pathsJ] using hL6⟩ (fun _ _ _ _ _ => trivial) (fun j y' σ H8 H7 hj h yy => ?_) (fun σ H7 h => ?_)
        · obtain ⟨rfl, rfl⟩ := yy
          obtain ⟨lf, x3, x4, rfl, n0, f7, hL7⟩ := h
          obtain ⟨us, hu, du⟩ := hL7.at_
          have hul : us.length = (pathsB 0 (b.take i) ++ ([i] :: pathsJ i (Stm.whl ev v y) j)).length := by rw [du.len, List.length_map]
          have hb7 := f7.get0 hb6
          have hs7 := f7.get0 hs6
          dsimp only
          rw [Int.zero_add]
          have hj2 : j = 0 := by omega
          subst hj2
          · skip
            have hc : (inn (Stm.whl ev v y))[0]? = some y := rfl
            have zc := dp_inn (List.mem_of_getElem? hc)
            have sc := sz_innM (List.mem_of_getElem? hc)
            have hpj : (pathsJ i (Stm.whl ev v y) 0).length + szB y ≤ (Stm.whl ev v y).sz := by
              simp [pathsJ, inn, List.range_succ, Stm.sz, pathsB_len]; try omega
            wtm_at "go"
            refine g_ixT hb7 (atI_nat hx) ?_
            wtm_at "go"
            refine g_ixT hs7 (at3 rfl) ?_
            wtm_at "go"
            refine to1 ⟨y, (((d3.frm f3).frm fu).frm fL).frm f7, by omega, by omega, by omega, fun l1 H9 vs n9 f9 h9 d9 => ?_⟩
            have hvl : vs.length = szB y := by rw [d9.len, List.length_map, pathsB_len]
            wtm_at "go"
            refine KLc.mapL h9 (((pathsB 0 y).map fun p => i :: 0 :: p).map encPath) (by simp [hvl, pathsB_len]) (by omega) (fun i2 x9 Hc Dr N d hx2 hd2 fc kc => ?_) (fun l2 H10 ys n10 f10 h10 dl => ?_)
            · obtain ⟨dd, hdd, dp⟩ := (d9.frm fc).getV hx2
              rw [List.getElem?_map] at hdd
              rw [List.getElem?_map, List.getElem?_map] at hd2
              cases hpp : (pathsB 0 y)[i2]? with
              | none => rw [hpp] at hdd; cases hdd
              | some pp =>
                rw [hpp] at hdd hd2
                obtain rfl := Option.some.inj hdd
                obtain rfl := Option.some.inj hd2
                have hpm := pathsB_long y 0 pp (List.mem_of_getElem? hpp)
                obtain ⟨ap, rfl, hap⟩ := dp.path
                wtm_at "wi"
                wtm_at "go"
                rename_i pt Ht nt ft ht
                refine g_catT ht (ft.get0 hap) (by rw [List.length_map]; simp only [List.length_cons, List.length_nil]; omega) (fun pz Hz fz hz => ?_)
                exact kc _ _ (ft.trans fz) (D.ofPath (by rw [hz]; rfl))
            · have hyl : ys.length = szB y := by rw [dl.len, List.length_map, List.length_map, pathsB_len]
              have hpl2 := pathsB_len (b.take i) 0
              wtm_at "go"
              refine g_catL (f10.get0 (f9.get0 hu)) h10 (by rw [hul, hyl, List.length_append, List.length_cons, hpl2]; omega) (fun l3 H11 n11 f11 h11 => ?_)
              wtm_at "go"
              have f711 := (f9.trans f10).trans f11
              refine ⟨l3, _, _, rfl, hL7.fr.back0 (f9.back0 (f10.back0 n11)), f7.trans f711, ⟨hL7.fr.trans f711, _, h11, ?_⟩⟩
              rw [pathsJ_succ i _ 0 y hc, ← List.cons_append, ← List.append_assoc, List.map_append]
              exact (du.frm f711).app (dl.frm f11)
        · obtain ⟨lf, x3, x4, rfl, n0, f7, hL7⟩ := h
          refine ⟨lf, _, _, _, rfl, n0, ?_⟩
          rw [take_snoc hs, pathsB_snoc, Nat.zero_add, hti, pathsS_J]
          exact hL7
    · obtain ⟨lf, x2, x3, x4, rfl, n0, hL⟩ := h
      rw [hxl, List.take_length] at hL
      obtain ⟨us, hu, du⟩ := hL.at_
      wtm_at "go"
      exact q lf H' us n0 hL.fr hu du
end

def yn (b : Bool) : Str := if b then "yes" else "no"
def encD : Deed → PyData
  | .send f t l n => .tuple [.str "send", .str f, .str t, .str l, .int n]
  | .get t f l n => .tuple [.str "get", .str t, .str f, .str l, .int n]
  | .set e x n => .tuple [.str "set", .str e, .str x, .int n]
  | .ask e x n => .tuple [.str "ask", .str e, .str x, .int n]
  | .ite e b => .tuple [.str "if", .str e, .str (yn b)]
  | .whl e p b => .tuple [.str "while", .str e, .int (p : Nat), .str (yn b)]
def encBr : Deed → PyData
  | .whl e _ b => .tuple [.str "while", .str e, .str (yn b)]
  | d => encD d
theorem encBr_bare (d : Deed) : encBr d = encBr d.bare := by cases d <;> rfl
theorem map_bare {ds es : List Deed} (h : ds.map Deed.bare = es.map Deed.bare) : ds.map encBr = es.map encBr := by
  have key : ∀ l : List Deed, l.map encBr = (l.map Deed.bare).map encBr := fun l => by
    rw [List.map_map]
    exact List.map_congr_left fun d _ => encBr_bare d
  rw [key ds, key es, h]
section
variable {P : Program} {w : World} {K : PySem.W.Frag} {mg : Str → Option Value} {base : Heap}
abbrev sLawBare : Stmt := top 70
theorem scLawBare : FnScope ["_law_row", "_law_deed"] ["_law_row"] (defScope sLawBare) := ⟨rfl, rfl, rfl, by decide +kernel, rfl, by decide +kernel, by decide +kernel⟩
def pBare (ro : V) (H : Hp) (Q : VK) (_ : XK) : Prop := ∃ (l : Addr) (vs : List V) (ds : List Deed), ro = .ref l ∧ H l = some (.lst vs) ∧ DL H vs (ds.map encD) ∧ ds.length ≤ 1000000 ∧ ∀ l2 H2 ys, H l2 = none → Frm [] H H2 → H2 l2 = some (.lst ys) → DL H2 ys (ds.map encBr) → Q (.ref l2) H2
theorem ok_bare (T : Tx K mg) (A : At K mg "_law_bare" sLawBare ["_law_row"]) : Has P w K mg base CX0 "_law_bare" ["_law_row"] 1 (sp1 pBare) := by
  refine has_mk A scLawBare (fun vs H Q E h => by obtain ⟨_, rfl, _⟩ := h; rfl) fun f cdv A outer s H vs Q E hr h => ?_
  obtain ⟨ro, rfl, l, vs, ds, rfl, hl, dl, hle, q⟩ := h
  refine ⟨_, (pss_one (ps_ret (pe_lc (own := [("_law_deed", 1)]) rfl scLawBare.nd (pi_list (pv 0)) (blkOk_by (own := [("_law_deed", 1)]) (N := ["_law_row", "_law_deed"]) (sc := defScope sLawBare) (by decide +kernel)) (fun _ _ _ _ _ => (pg_name (i := 1) scLawBare.nd rfl (Or.inl rfl))) (fun _ _ _ _ _ => pts_nil) (fun _ _ _ _ _ => (pe_ifExp (pt_cmpR op_eq (pe_ix (b_ixT K) (pv 1) pe_int (fun _ _ => rfl)) pe_str (nomark _)) (pe_op (b_catT K) (pe_slice (b_slT K) (pv 1) po_none (po_some pe_int)) (pe_slice (b_slT K) (pv 1) (po_some pe_int) po_none)) (pv 1)))))), ?_⟩
  wtm_at "kk"
  refine g_st (σ' := [some (.ref l), none]) rfl ?_
  have hvl : vs.length = ds.length := by rw [dl.len, List.length_map]
  wtm_at "go"
  refine KLc.mapL hl (ds.map encBr) (by simp [hvl]) (by omega) (fun i x H1 Dr N d hx hd f1 kc => ?_) (fun l2 H2 ys n2 f2 h2 d2 => q l2 H2 ys n2 f2 h2 d2)
  obtain ⟨dd, hdd, dx⟩ := (dl.frm f1).getV hx
  rw [List.getElem?_map] at hdd hd
  cases hz : ds[i]? with
  | none => rw [hz] at hdd; cases hdd
  | some z =>
    rw [hz] at hdd hd
    obtain rfl := Option.some.inj hdd
    obtain rfl := Option.some.inj hd
    wtm_at "wi"
    have dx0 := dx
    cases z with
    | send f t lb n =>
      obtain ⟨b1, x0, x1, x2, x3, x4, rfl, hb1, d0, d1, d2, d3, d4⟩ := D.t5 dx0
      cases d0
      wtm_at "go"
      exact kc _ _ (Frm.refl _ _) dx
    | get f t lb n =>
      obtain ⟨b1, x0, x1, x2, x3, x4, rfl, hb1, d0, d1, d2, d3, d4⟩ := D.t5 dx0
      cases d0
      wtm_at "go"
      exact kc _ _ (Frm.refl _ _) dx
    | set e y n =>
      obtain ⟨b1, x0, x1, x2, x3, rfl, hb1, d0, d1, d2, d3⟩ := D.t4 dx0
      cases d0
      wtm_at "go"
      exact kc _ _ (Frm.refl _ _) dx
    | ask e y n =>
      obtain ⟨b1, x0, x1, x2, x3, rfl, hb1, d0, d1, d2, d3⟩ := D.t4 dx0
      cases d0
      wtm_at "go"
      exact kc _ _ (Frm.refl _ _) dx
    | ite e b =>
      obtain ⟨b1, x0, x1, x2, rfl, hb1, d0, d1, d2⟩ := D.t3 dx0
      cases d0
      wtm_at "go"
      exact kc _ _ (Frm.refl _ _) dx
    | whl e p b =>
      obtain ⟨b1, x0, x1, x2, x3, rfl, hb1, d0, d1, d2, d3⟩ := D.t4 dx0
      cases d0
      wtm_at "go"
      rename_i p3 H3 f3 h3 p4 H4 f4 h4 p5 H5 f5 h5
      have f15 := (f3.trans f4).trans f5
      exact kc _ _ f15 (.tup h5 (.cons (.str _) (.cons (d1.frm f15) (.cons (d3.frm f15) .nil))))
end

theorem DL.intsE {H : Hp} : ∀ {l : List Int} {ys : List V}, DL H ys (l.map PyData.int) → ys = l.map V.int := by
  intro l
  induction l with
  | nil => intro ys h; exact h.nilE
  | cons b r ih =>
    intro ys h
    obtain ⟨x, t, rfl, h1, h2⟩ := h.consE
    cases h1
    rw [ih h2]; rfl
/-- what each end reads -/
def InpOk (H : Hp) (kv : List (Key × V)) (L : List Str) (ins : Str → List Int) : Prop := ∀ e ∈ L, ∃ le, valV kv (Sum.inr e) = some (.ref le) ∧ H le = some (.lst ((ins e).map V.int)) ∧ (∀ z ∈ ins e, z ∈ nums) ∧ (ins e).length ≤ 3
theorem InpOk.frm {H H' : Hp} {kv : List (Key × V)} {L : List Str} {ins : Str → List Int} (h : InpOk H kv L ins) (f : Frm [] H H') : InpOk H' kv L ins := fun e he => by
  obtain ⟨le, h1, h2, h3⟩ := h e he
  exact ⟨le, h1, f.get0 h2, h3⟩
section
variable {P : Program} {w : World} {K : PySem.W.Frag} {mg : Str → Option Value} {base : Heap}
abbrev sLawInputs : Stmt := top 61
theorem scLawInputs : FnScope ["_law_tape_here", "_law_ends_here", "_law_inputs_here", "_law_end", "_law_k"] ["_law_tape_here", "_law_ends_here"] (defScope sLawInputs) := ⟨rfl, rfl, rfl, by decide +kernel, rfl, by decide +kernel, by decide +kernel⟩
def pInp (tp en : V) (H : Hp) (Q : VK) (_ : XK) : Prop := ∃ (d c e : Addr) (Es : List Str), tp = .ref d ∧ en = .ref e ∧ Tape H d c ∧ H e = some (.tup (Es.map V.str)) ∧ EsOk Es ∧ ∀ dk H2 kv ins, Frm [d] H H2 → H2 dk = some (.dK kv) → InpOk H2 kv Es ins → Q (.ref dk) H2
theorem ok_inp (T : Tx K mg) (A : At K mg "_law_inputs" sLawInputs ["_law_tape_here", "_law_ends_here"]) (C__law_take : Has P w K mg base CX0 "_law_take" ["_law_tape_here", "_law_many"] 1 (sp2 pTake)) (C__law_number : Has P w K mg base CX0 "_law_number" ["_law_tape_here"] 2 (sp1 pNum)) :
    Has P w K mg base CX0 "_law_inputs" ["_law_tape_here", "_law_ends_here"] 3 (sp2 pInp) := by
  refine has_mk A scLawInputs (fun vs H Q E h => by obtain ⟨_, _, rfl, _⟩ := h; rfl) fun f cdv A outer s H vs Q E hr h => ?_
  obtain ⟨tp, en, rfl, d, c, e, Es, rfl, rfl, hT, he, EO, q⟩ := h
  refine ⟨_, (pss_cons (ps_set (i := 2) scLawInputs.nd rfl (Or.inl rfl) pe_dnewK) (pss_cons (ps_for PassesOwn.never rfl (pi_tup (pv 1)) (pg_name (i := 3) scLawInputs.nd rfl (Or.inl rfl)) (pss_one (ps_dput (hu_of hr) (pv 2) (pv 3) (pe_lc (own := [("_law_k", 4)]) rfl scLawInputs.nd (pi_range1 (by rfl) T.range (pa_cons (pe_h0 C__law_take (hr.mono (by omega)) (pa_cons (pv 0) (pa_cons pe_int pa_nil))) pa_nil)) (blkOk_by (own := [("_law_k", 4)]) (N := ["_law_tape_here", "_law_ends_here", "_law_inputs_here", "_law_end", "_law_k"]) (sc := defScope sLawInputs) (by decide +kernel)) (fun _ _ _ _ _ => (pg_name (i := 4) scLawInputs.nd rfl (Or.inl rfl))) (fun _ _ _ _ _ => pts_nil) (fun _ _ _ _ _ => (pe_h0 C__law_number (hr.mono (by omega)) (pa_cons (pv 0) pa_nil)))) rfl))) (pss_one (ps_ret (pv 2))))), ?_⟩
  wtm_at "kk"
  refine g_st (σ' := [some (.ref d), some (.ref e), none, none, none]) rfl ?_
  wtm_at "go"
  refine fun dk ndk => ?_
  have nT := hT.ne ndk
  have f1 : Frm [] H (upd H dk (.dK [])) := Frm.new ndk
  wtm_at "go"
  refine KForT.mk (xs := Es.map V.str) (fun i σ H' => ∃ x3 x4 kv ins, σ = [some (.ref d), some (.ref e), some (.ref dk), x3, x4] ∧ Frm [d] H H' ∧ Tape H' d c ∧ H' dk = some (.dK kv) ∧ kv.length ≤ i ∧ InpOk (wo H' dk) kv (Es.take i) ins)
    (fun i σ H' _ h => by obtain ⟨_, _, _, _, _, h, _⟩ := h; exact h.tupS he) ⟨none, none, [], fun _ => [], rfl, f1.any, hT.frm f1, upd_same, Nat.le_refl _, (fun x hx => by simp at hx)⟩ (fun i x σ H' hx h => ?_) (fun σ H' h => ?_)
  · obtain ⟨x3, x4, kv, ins, rfl, fH, hT1, hdk, hkl, hin⟩ := h
    obtain ⟨z, hz, rfl⟩ := getMapStr hx
    have hi := (List.getElem?_eq_some_iff.mp hz).1
    have h6 := EO.l6
    wtm_at "go"
    refine to2 ⟨d, c, 4, rfl, rfl, by decide, by decide, hT1, fun r H2 hr2 f2 hT2 => ?_⟩
    have hdk2 : H2 dk = some (.dK kv) := f2.at1 nT.1 hdk
    wtm_at "go"
    refine g_kR (by omega) ?_
    refine KLc.mk (walk_range (lo := 0) (n := r)) fun Dr hD => ⟨fun j H3 => ∃ zs : List Int, zs.length = j ∧ (∀ y ∈ zs, y ∈ nums) ∧ LI [d] H2 Dr (zs.map PyData.int) H3 ∧ Tape H3 d c, ⟨[], rfl, (fun _ h => nomatch h), .new (Frm.new hD) upd_same, hT2.frm (Frm.new hD)⟩, fun _ _ _ _ => trivial, fun j y H4 H3 hj h yy => ?_, fun H3 h => ?_⟩
    · obtain ⟨rfl, rfl⟩ := yy
      obtain ⟨zs, hzl, hzm, hL, hT3⟩ := h
      have nD := hT2.ne hD
      wtm_at "wi"
      wtm_at "go"
      refine to1 ⟨d, c, rfl, hT3, fun y H5 hy f5 hT5 => ?_⟩
      have hL5 := hL.frmS (by simpa using nD.1) f5
      obtain ⟨us, hu, du⟩ := hL5.at_
      have hul : us.length = zs.length := by rw [du.len, List.length_map]
      refine g_acc hu (by omega) ⟨zs ++ [y], by rw [List.length_append, hzl]; rfl, fun a ha => ?_, ?_, hT5.upd nD.1 nD.2⟩
      · rcases List.mem_append.mp ha with ha | ha
        · exact hzm a ha
        · rw [List.mem_singleton.mp ha]; exact hy
      · rw [List.map_append]; exact hL5.app hD hu (.int _)
    · obtain ⟨zs, hzl, hzm, hL, hT3⟩ := h
      obtain ⟨us, hu, du⟩ := hL.at_
      obtain rfl := du.intsE
      have hdk3 : H3 dk = some (.dK kv) := hL.fr.at1 nT.1 hdk2
      have hne : Dr ≠ dk := fun zz => by rw [zz, hdk2] at hD; cases hD
      wtm_at "go"
      refine g_dputS hdk3 (by omega) ?_
      have f23 := f2.trans hL.fr
      refine ⟨_, _, _, fun a => if a = z then zs else ins a, rfl, (fH.trans f23).loc ndk, hT3.upd (Ne.symm (Ne.symm nT.1)) nT.2, upd_same, by have := length_putK kv (Sum.inr z) (.ref Dr); omega, fun a ha => ?_⟩
      rw [wo_upd, valV_put]
      by_cases ca : a = z
      · subst ca
        exact ⟨Dr, by rw [if_pos rfl], by rw [wo_ne hne]; dsimp only; rw [if_pos rfl]; exact hu, by dsimp only; rw [if_pos rfl]; exact hzm, by dsimp only; rw [if_pos rfl]; omega⟩
      · rw [take_snoc hz] at ha
        have ha' : a ∈ Es.take i := by
          rcases List.mem_append.mp ha with ha | ha
          · exact ha
          · exact absurd (List.mem_singleton.mp ha) ca
        obtain ⟨le, k1, k2, k3, k4⟩ := hin a ha'
        have kd : le ≠ d := fun zz => by
          obtain ⟨kk9, q9⟩ := hT1.dK
          have := (wo_back k2).2
          rw [zz, q9] at this; cases this
        refine ⟨le, by rw [if_neg (fun zz => ca (Sum.inr.inj zz))]; exact k1, ?_, by dsimp only; rw [if_neg ca]; exact k3, by dsimp only; rw [if_neg ca]; exact k4⟩
        dsimp only; rw [if_neg ca]
        exact (wo_mono f23).at1 kd k2
  · obtain ⟨x3, x4, kv, ins, rfl, fH, hT1, hdk, hkl, hin⟩ := h
    rw [List.length_map, List.take_length] at hin
    wtm_at "go"
    exact q dk H' kv ins fH hdk fun a ha => by
      obtain ⟨le, k1, k2, k3⟩ := hin a ha
      exact ⟨le, k1, (wo_back k2).2, k3⟩
end

/-- where the world of a run stands -/
structure WC where
  w : Addr
  dd : Addr
  vv : Addr
  ll : Addr
  aF : Str → Addr
  bF : Str → Addr
def WC.own (c : WC) (Es : List Str) : List Addr := c.dd :: (Es.map c.aF ++ Es.map c.bF)
structure WCd (c : WC) (Es : List Str) : Prop where
  ai : ∀ e ∈ Es, ∀ f ∈ Es, c.aF e = c.aF f → e = f
  bi : ∀ e ∈ Es, ∀ f ∈ Es, c.bF e = c.bF f → e = f
  aw : ∀ e ∈ Es, c.aF e ≠ c.w ∧ c.aF e ≠ c.vv ∧ c.aF e ≠ c.ll
  bd : ∀ e ∈ Es, c.bF e ≠ c.dd
structure WH (H : Hp) (c : WC) (Es : List Str) (W : Wd) (m : Nat) : Prop where
  hw : ∃ kv, H c.w = some (.dK kv) ∧ valV kv (Sum.inr "deeds") = some (.ref c.dd) ∧ valV kv (Sum.inr "vars") = some (.ref c.vv) ∧ valV kv (Sum.inr "left") = some (.ref c.ll)
  hd : ∃ us, H c.dd = some (.lst us) ∧ DL H us (W.deeds.map encD)
  hv : ∃ kv, H c.vv = some (.dK kv) ∧ ∀ e ∈ Es, valV kv (Sum.inr e) = some (.ref (c.aF e))
  hl : ∃ kv, H c.ll = some (.dK kv) ∧ ∀ e ∈ Es, valV kv (Sum.inr e) = some (.ref (c.bF e))
  ha : ∀ e ∈ Es, ∃ kv, H (c.aF e) = some (.dK kv) ∧ VarsOk kv (W.vars e) ∧ kv.length ≤ m
  hr : ∀ e ∈ Es, InR (W.vars e)
  hb : ∀ e ∈ Es, H (c.bF e) = some (.lst ((W.left e).map V.int)) ∧ (∀ z ∈ W.left e, z ∈ nums) ∧ (W.left e).length ≤ 3
  hm : W.deeds.length ≤ m
section
variable {H H' : Hp} {c : WC} {Es : List Str} {W : Wd} {m : Nat}
theorem WH.mono {k : Nat} (h : WH H c Es W m) (l : m ≤ k) : WH H c Es W k :=
  ⟨h.hw, h.hd, h.hv, h.hl, fun e he => by obtain ⟨kv, a, b, d⟩ := h.ha e he; exact ⟨kv, a, b, Nat.le_trans d l⟩, h.hr, h.hb, Nat.le_trans h.hm l⟩
theorem WH.frm (h : WH H c Es W m) (f : Frm [] H H') : WH H' c Es W m := by
  obtain ⟨kw, w1, w2⟩ := h.hw
  obtain ⟨us, d1, d2⟩ := h.hd
  obtain ⟨kv, v1, v2⟩ := h.hv
  obtain ⟨kl, l1, l2⟩ := h.hl
  exact ⟨⟨kw, f.get0 w1, w2⟩, ⟨us, f.get0 d1, d2.frm f⟩, ⟨kv, f.get0 v1, v2⟩, ⟨kl, f.get0 l1, l2⟩, fun e he => by obtain ⟨kv, a, b⟩ := h.ha e he; exact ⟨kv, f.get0 a, b⟩, h.hr, fun e he => ⟨f.get0 (h.hb e he).1, (h.hb e he).2⟩, h.hm⟩
theorem ne_LD {a b : Addr} {us : List V} {kv : List (Key × V)} (h1 : H a = some (.lst us)) (h2 : H b = some (.dK kv)) : b ≠ a := fun z => by rw [z, h1] at h2; cases h2
theorem WC.own_d : c.dd ∈ c.own Es := List.mem_cons_self
theorem WC.own_a {e : Str} (he : e ∈ Es) : c.aF e ∈ c.own Es := List.mem_cons_of_mem _ (List.mem_append_left _ (List.mem_map.mpr ⟨e, he, rfl⟩))
theorem WC.own_b {e : Str} (he : e ∈ Es) : c.bF e ∈ c.own Es := List.mem_cons_of_mem _ (List.mem_append_right _ (List.mem_map.mpr ⟨e, he, rfl⟩))
/-- a deed is told -/
theorem WH.say {us : List V} {x : V} {d : Deed} (C : WCd c Es) (h : WH H c Es W m) (hu : H c.dd = some (.lst us)) (dx : D H x (encD d)) : WH (upd H c.dd (.lst (us ++ [x]))) c Es (W.say [d]) (m + 1) := by
  obtain ⟨kw, w1, w2⟩ := h.hw
  obtain ⟨us', d1, d2⟩ := h.hd
  obtain ⟨kv, v1, v2⟩ := h.hv
  obtain ⟨kl, l1, l2⟩ := h.hl
  rw [hu] at d1
  cases d1
  refine ⟨⟨kw, by rw [upd_ne (ne_LD hu w1)]; exact w1, w2⟩, ⟨_, upd_same, ?_⟩, ⟨kv, by rw [upd_ne (ne_LD hu v1)]; exact v1, v2⟩, ⟨kl, by rw [upd_ne (ne_LD hu l1)]; exact l1, l2⟩, fun e he => ?_, h.hr, fun e he => ⟨by rw [upd_ne (C.bd e he)]; exact (h.hb e he).1, (h.hb e he).2⟩, ?_⟩
  · have := (d2.mut (u := .lst (us ++ [x])) hu nt_lst).app (DL.one (dx.mut (u := .lst (us ++ [x])) hu nt_lst))
    simpa [Wd.say] using this
  · obtain ⟨ka, a, b, l⟩ := h.ha e he
    exact ⟨ka, by rw [upd_ne (ne_LD hu a)]; exact a, b, by omega⟩
  · simp only [Wd.say, List.length_append, List.length_singleton]
    have := h.hm
    omega
/-- a variable is set -/
theorem WH.put {kv : List (Key × V)} {e x : Str} {n : Int} (C : WCd c Es) (h : WH H c Es W m) (he : e ∈ Es) (hu : H (c.aF e) = some (.dK kv)) (hn : 0 ≤ n ∧ n < BIG) : WH (upd H (c.aF e) (.dK (putK kv (Sum.inr x) (.int n)))) c Es (W.put e x n) (m + 1) := by
  obtain ⟨kw, w1, w2⟩ := h.hw
  obtain ⟨us, d1, d2⟩ := h.hd
  obtain ⟨kz, v1, v2⟩ := h.hv
  obtain ⟨kl, l1, l2⟩ := h.hl
  obtain ⟨q1, q2, q3⟩ := C.aw e he
  refine ⟨⟨kw, by rw [upd_ne (Ne.symm q1)]; exact w1, w2⟩, ⟨us, by rw [upd_ne (Ne.symm (ne_LD d1 hu))]; exact d1, d2.mut hu nt_dK⟩, ⟨kz, by rw [upd_ne (Ne.symm q2)]; exact v1, v2⟩, ⟨kl, by rw [upd_ne (Ne.symm q3)]; exact l1, l2⟩, fun f hf => ?_, fun f hf => ?_, fun f hf => ?_, ?_⟩
  · by_cases g : f = e
    · subst g
      obtain ⟨ka, a, b, l⟩ := h.ha f hf
      rw [hu] at a
      cases a
      refine ⟨_, upd_same, fun y => ?_, by have := length_putK kv (Sum.inr x) (.int n); omega⟩
      rw [valV_put]
      by_cases g2 : y = x
      · subst g2; simp [Wd.put]
      · rw [if_neg (fun z => g2 (Sum.inr.inj z))]
        rw [b y]; simp [Wd.put, g2]
    · obtain ⟨ka, a, b, l⟩ := h.ha f hf
      refine ⟨ka, by rw [upd_ne (fun z => g (C.ai f hf e he z))]; exact a, fun y => ?_, by omega⟩
      rw [b y]; simp [Wd.put, g]
  · have := h.hr f hf
    intro y
    simp only [Wd.put]
    split
    · exact hn
    · exact this y
  · obtain ⟨b1, b2⟩ := h.hb f hf
    exact ⟨by rw [upd_ne (Ne.symm (ne_LD b1 hu))]; exact b1, b2⟩
  · have := h.hm
    simp only [Wd.put]; omega
/-- a number is read -/
theorem WH.take {e : Str} (C : WCd c Es) (h : WH H c Es W m) (he : e ∈ Es) : WH (upd H (c.bF e) (.lst ((W.left e).tail.map V.int))) c Es (W.take e) m := by
  obtain ⟨kw, w1, w2⟩ := h.hw
  obtain ⟨us, d1, d2⟩ := h.hd
  obtain ⟨kz, v1, v2⟩ := h.hv
  obtain ⟨kl, l1, l2⟩ := h.hl
  obtain ⟨b1, b2, b3⟩ := h.hb e he
  refine ⟨⟨kw, by rw [upd_ne (ne_LD b1 w1)]; exact w1, w2⟩, ⟨us, by rw [upd_ne (Ne.symm (C.bd e he))]; exact d1, d2.mut b1 nt_lst⟩, ⟨kz, by rw [upd_ne (ne_LD b1 v1)]; exact v1, v2⟩, ⟨kl, by rw [upd_ne (ne_LD b1 l1)]; exact l1, l2⟩, fun f hf => ?_, h.hr, fun f hf => ?_, h.hm⟩
  · obtain ⟨ka, a, b⟩ := h.ha f hf
    exact ⟨ka, by rw [upd_ne (ne_LD b1 a)]; exact a, b⟩
  · by_cases g : f = e
    · subst g
      refine ⟨by simp only [Wd.take, if_true]; exact upd_same, fun z hz => ?_, ?_⟩
      · simp only [Wd.take, if_true] at hz
        exact b2 z (List.mem_of_mem_tail hz)
      · simp only [Wd.take, if_true, List.length_tail]; omega
    · obtain ⟨c1, c2⟩ := h.hb f hf
      refine ⟨by rw [upd_ne (fun z => g (C.bi f hf e he z))]; simp only [Wd.take, if_neg g]; exact c1, ?_⟩
      simp only [Wd.take, if_neg g]; exact c2
end
section
variable {P : Program} {w : World} {K : PySem.W.Frag} {mg : Str → Option Value} {base : Heap}
abbrev sLawPlain : Stmt := top 64
theorem scLawPlain : FnScope ["_law_block_here", "_law_w", "_law_at", "_law_one", "_law_end", "_law_own", "_law_size", "_law_number_here", "_law_yes", "_law_inside", "_law_k"] ["_law_block_here", "_law_w", "_law_at"] (defScope sLawPlain) := ⟨rfl, rfl, rfl, by decide +kernel, rfl, by decide +kernel, by decide +kernel⟩
theorem say_say (W : Wd) (a b : List Deed) : (W.say a).say b = W.say (a ++ b) := by simp [Wd.say]
def fst : Stm → Str
  | .msg f _ _ _ _ => f
  | .set e _ _ => e
  | .ask e _ => e
  | .ite e _ _ _ => e
  | .whl e _ _ => e
  | .call p _ => p
theorem D.stm12 {H : Hp} {v : V} {s : Stm} (h : D H v (encS s)) : ∃ b xs, v = .ref b ∧ H b = some (.tup (.str (wd s) :: .str (fst s) :: xs)) := by
  cases s with
  | msg f t l y x =>
    obtain ⟨b, x0, x1, x2, x3, x4, x5, rfl, hb, d0, d1, d2, d3, d4, d5⟩ := D.t6 h
    cases d0; cases d1
    exact ⟨b, _, rfl, hb⟩
  | set e x y =>
    obtain ⟨b, x0, x1, x2, x3, rfl, hb, d0, d1, d2, d3⟩ := D.t4 h
    cases d0; cases d1
    exact ⟨b, _, rfl, hb⟩
  | ask e x =>
    obtain ⟨b, x0, x1, x2, rfl, hb, d0, d1, d2⟩ := D.t3 h
    cases d0; cases d1
    exact ⟨b, _, rfl, hb⟩
  | ite e y a n =>
    obtain ⟨b, x0, x1, x2, x3, x4, rfl, hb, d0, d1, d2, d3, d4⟩ := D.t5 h
    cases d0; cases d1
    exact ⟨b, _, rfl, hb⟩
  | whl e y a =>
    obtain ⟨b, x0, x1, x2, x3, rfl, hb, d0, d1, d2, d3⟩ := D.t4 h
    cases d0; cases d1
    exact ⟨b, _, rfl, hb⟩
  | call p es =>
    obtain ⟨b, x0, x1, x2, rfl, hb, d0, d1, d2⟩ := D.t3 h
    cases d0; cases d1
    exact ⟨b, _, rfl, hb⟩
theorem fst_mem {Es : List Str} {s : Stm} (h : gF Es [] s.flat) : fst s ∈ Es := by
  cases s with
  | msg f t l y x => exact h.1
  | set e x y => exact h.1
  | ask e x => exact h.1
  | ite e y a n => exact h.1
  | whl e y a => exact h.1
  | call p es => obtain ⟨⟨q, hq, _⟩, _⟩ := h; cases hq
theorem DL.ofInts {H : Hp} : ∀ {l : List Int}, DL H (l.map V.int) (l.map PyData.int)
  | [] => .nil
  | a :: r => .cons (.int a) DL.ofInts
theorem layInts : ∀ l : List Int, PyData.canLayAll0 (l.map PyData.int) = true
  | [] => by simp [PyData.canLayAll0]
  | a :: r => by simp only [List.map_cons, PyData.canLayAll0, PyData.canLay0, layInts r, Bool.and_self]
theorem depInts : ∀ l : List Int, PyData.depthAll (l.map PyData.int) ≤ 60
  | [] => by simp [PyData.depthAll]
  | a :: r => by
    have := depInts r
    simp only [List.map_cons, PyData.depthAll, PyData.depth]; omega
theorem seq0 (n : Nat) : seqIndex? 0 (n + 1) = some 0 := by
  simp [seqIndex?]
theorem take_nil {W : Wd} {e : Str} (h : W.left e = []) : W.take e = W := by
  obtain ⟨vs, lf, ds⟩ := W
  simp only [Wd.take, Wd.mk.injEq, true_and, and_true]
  funext a
  by_cases c : a = e
  · subst c; simp only [if_true]; rw [show lf a = [] from h]; rfl
  · simp only [if_neg c]
def wC (e : Str) (v : Val) : Wd → Bool := fun w => decide (num (w.vars e) v ≠ 0)
theorem runS_whl (e : Str) (v : Val) (b : List Stm) (p : Nat) (w : Wd) : runS (.whl e v b) p w = whLoop (wC e v) (fun w => w.say [.whl e p true]) (fun w => w.say [.whl e p false]) (runB b (p + 1)) 8 w := by simp only [runS]; rfl
theorem wh_no {c : Wd → Bool} {yes no f : Wd → Wd} {w : Wd} (h : c w = false) : ∀ k, whLoop c yes no f k w = no w
  | 0 => rfl
  | k + 1 => by simp only [whLoop, h]; rfl
theorem wh_yes {c : Wd → Bool} {yes no f : Wd → Wd} {w : Wd} (h : c w = true) (k : Nat) : whLoop c yes no f (k + 1) w = whLoop c yes no f k (f (yes w)) := by simp only [whLoop, h, if_true]
def pPlain (n : Nat) (bl wr at_ : V) (H : Hp) (Q : VK) (_ : XK) : Prop := ∃ (b : List Stm) (c : WC) (Es : List Str) (W : Wd) (m p : Nat), D H bl (encBT b) ∧ gB Es [] b ∧ dpB b < n ∧ dpB b < 7 ∧ szB b ≤ 400000 ∧ wr = .ref c.w ∧ at_ = .int (p : Nat) ∧ WCd c Es ∧ WH H c Es W m ∧ m + costB b ≤ 900000 ∧
  ∀ H2, Frm (c.own Es) H H2 → WH H2 c Es (runB b p W) (m + costB b) → Q .non H2
theorem ok_plain (T : Tx K mg) (A : At K mg "_law_plain" sLawPlain ["_law_block_here", "_law_w", "_law_at"]) (C__law_num : Has P w K mg base CX0 "_law_num" ["_law_tree_here", "_law_variables"] 10 (sp2 (pLNum 9)))
    (C__law_count : Has P w K mg base CX0 "_law_count" ["_law_block_here"] 10 (sp1 pCnt)) : ∀ n, Has P w K mg base CX0 "_law_plain" ["_law_block_here", "_law_w", "_law_at"] (n + 11) (sp3 (pPlain n))
  | 0 => has_no A fun vs H Q E h => by obtain ⟨_, _, _, _, _, _, _, _, _, _, _, _, h, _⟩ := h; exact absurd h (Nat.not_lt_zero _)
  | n + 1 => by
    have C__law_plain := ok_plain T A C__law_num C__law_count n
    refine has_mk A scLawPlain (fun vs H Q E h => by obtain ⟨_, _, _, rfl, _⟩ := h; rfl) fun f cdv A outer s H vs Q E hr h => ?_
    obtain ⟨bl, wr, at_, rfl, b, c, Es, W, m, p, dB, hg, hdp, hd7, hz, rfl, rfl, C, hW, hcm, q⟩ := h
    obtain ⟨ab, xs, rfl, hb, dX⟩ := dB.tupE
    have hxl := dX.encLen
    refine ⟨_, (pss_one (ps_for PassesOwn.never rfl (pi_tup (pv 0)) (pg_name (i := 3) scLawPlain.nd rfl (Or.inl rfl)) (pss_cons (ps_set (i := 4) scLawPlain.nd rfl (Or.inl rfl) (pe_ix ix_tup (pv 3) pe_int (fun _ _ => rfl))) (pss_cons (ps_set (i := 5) scLawPlain.nd rfl (Or.inl rfl) (pe_dget (hu_of hr) (pe_dget (hu_of hr) (pv 1) pe_str (fun _ _ => rfl)) (pv 4) (fun _ _ => rfl))) (pss_cons (ps_set (i := 6) scLawPlain.nd rfl (Or.inl rfl) (pe_h0 C__law_count (hr.mono (by omega)) (pa_cons (pe_tup (pa_cons (pv 3) pa_nil)) pa_nil))) (pss_cons (ps_if (pt_cmpR op_eq (pe_ix ix_tup (pv 3) pe_int (fun _ _ => rfl)) pe_str (nomark _)) (pss_cons (ps_set (i := 7) scLawPlain.nd rfl (Or.inl rfl) (pe_h0 C__law_num (hr.mono (by omega)) (pa_cons (pe_ix ix_tup (pv 3) pe_int (fun _ _ => rfl)) (pa_cons (pv 5) pa_nil)))) (pss_cons (ps_expr (pe_bm PySem.F.plainAttrs_list PySem.F.slot_list_append PySem.F.type_list_append mt_append (pe_dget (hu_of hr) (pv 1) pe_str (fun _ _ => rfl)) (pa_cons (pe_tup (pa_cons pe_str (pa_cons (pv 4) (pa_cons (pe_ix ix_tup (pv 3) pe_int (fun _ _ => rfl)) (pa_cons (pe_ix ix_tup (pv 3) pe_int (fun _ _ => rfl)) (pa_cons (pv 7) pa_nil)))))) pa_nil))) (pss_cons (ps_expr (pe_bm PySem.F.plainAttrs_list PySem.F.slot_list_append PySem.F.type_list_append mt_append (pe_dget (hu_of hr) (pv 1) pe_str (fun _ _ => rfl)) (pa_cons (pe_tup (pa_cons pe_str (pa_cons (pe_ix ix_tup (pv 3) pe_int (fun _ _ => rfl)) (pa_cons (pv 4) (pa_cons (pe_ix ix_tup (pv 3) pe_int (fun _ _ => rfl)) (pa_cons (pv 7) pa_nil)))))) pa_nil))) (pss_one (ps_dput (hu_of hr) (pe_dget (hu_of hr) (pe_dget (hu_of hr) (pv 1) pe_str (fun _ _ => rfl)) (pe_ix ix_tup (pv 3) pe_int (fun _ _ => rfl)) (fun _ _ => rfl)) (pe_ix ix_tup (pv 3) pe_int (fun _ _ => rfl)) (pv 7) rfl))))) (pss_one (ps_if (pt_cmpR op_eq (pe_ix ix_tup (pv 3) pe_int (fun _ _ => rfl)) pe_str (nomark _)) (pss_cons (ps_dput (hu_of hr) (pv 5) (pe_ix ix_tup (pv 3) pe_int (fun _ _ => rfl)) (pe_h0 C__law_num (hr.mono (by omega)) (pa_cons (pe_ix ix_tup (pv 3) pe_int (fun _ _ => rfl)) (pa_cons (pv 5) pa_nil))) rfl) (pss_one (ps_expr (pe_bm PySem.F.plainAttrs_list PySem.F.slot_list_append PySem.F.type_list_append mt_append (pe_dget (hu_of hr) (pv 1) pe_str (fun _ _ => rfl)) (pa_cons (pe_tup (pa_cons pe_str (pa_cons (pv 4) (pa_cons (pe_ix ix_tup (pv 3) pe_int (fun _ _ => rfl)) (pa_cons (pe_dget (hu_of hr) (pv 5) (pe_ix ix_tup (pv 3) pe_int (fun _ _ => rfl)) (fun _ _ => rfl)) pa_nil))))) pa_nil))))) (pss_one (ps_if (pt_cmpR op_eq (pe_ix ix_tup (pv 3) pe_int (fun _ _ => rfl)) pe_str (nomark _)) (pss_cons (ps_dput (hu_of hr) (pv 5) (pe_ix ix_tup (pv 3) pe_int (fun _ _ => rfl)) (pe_ifExp (pt_cmpR (op_neD hr.units) (pe_dget (hu_of hr) (pe_dget (hu_of hr) (pv 1) pe_str (fun _ _ => rfl)) (pv 4) (fun _ _ => rfl)) (pe_lst pa_nil) (nomark _)) (pe_bm PySem.F.plainAttrs_list PySem.F.slot_list_pop PySem.F.type_list_pop mt_popAt (pe_dget (hu_of hr) (pe_dget (hu_of hr) (pv 1) pe_str (fun _ _ => rfl)) (pv 4) (fun _ _ => rfl)) (pa_cons pe_int pa_nil)) pe_int) rfl) (pss_one (ps_expr (pe_bm PySem.F.plainAttrs_list PySem.F.slot_list_append PySem.F.type_list_append mt_append (pe_dget (hu_of hr) (pv 1) pe_str (fun _ _ => rfl)) (pa_cons (pe_tup (pa_cons pe_str (pa_cons (pv 4) (pa_cons (pe_ix ix_tup (pv 3) pe_int (fun _ _ => rfl)) (pa_cons (pe_dget (hu_of hr) (pv 5) (pe_ix ix_tup (pv 3) pe_int (fun _ _ => rfl)) (fun _ _ => rfl)) pa_nil))))) pa_nil))))) (pss_one (ps_if (pt_cmpR op_eq (pe_ix ix_tup (pv 3) pe_int (fun _ _ => rfl)) pe_str (nomark _)) (pss_cons (ps_set (i := 8) scLawPlain.nd rfl (Or.inl rfl) (pe_cmpR op_ne (pe_h0 C__law_num (hr.mono (by omega)) (pa_cons (pe_ix ix_tup (pv 3) pe_int (fun _ _ => rfl)) (pa_cons (pv 5) pa_nil))) pe_int (nomark _))) (pss_cons (ps_expr (pe_bm PySem.F.plainAttrs_list PySem.F.slot_list_append PySem.F.type_list_append mt_append (pe_dget (hu_of hr) (pv 1) pe_str (fun _ _ => rfl)) (pa_cons (pe_tup (pa_cons pe_str (pa_cons (pv 4) (pa_cons (pe_ifExp (pt_val (pv 8)) pe_str pe_str) pa_nil)))) pa_nil))) (pss_cons (ps_set (i := 9) scLawPlain.nd rfl (Or.inl rfl) (pe_h0 C__law_count (hr.mono (by omega)) (pa_cons (pe_ix ix_tup (pv 3) pe_int (fun _ _ => rfl)) pa_nil))) (pss_one (ps_expr (pe_h0 C__law_plain (hr.mono (by omega)) (pa_cons (pe_ifExp (pt_val (pv 8)) (pe_ix ix_tup (pv 3) pe_int (fun _ _ => rfl)) (pe_ix ix_tup (pv 3) pe_int (fun _ _ => rfl))) (pa_cons (pv 1) (pa_cons (pe_ifExp (pt_val (pv 8)) (pe_op k_add (pv 2) pe_int) (pe_op k_add (pe_op k_add (pv 2) pe_int) (pv 9))) pa_nil))))))))) (pss_one (ps_for PassesOwn.never rfl (pi_range1 (by rfl) T.range (pa_cons pe_int pa_nil)) (pg_name (i := 10) scLawPlain.nd rfl (Or.inl rfl)) (pss_cons (ps_if (PW.pt (pw_or (pt_cmpR op_eq (pv 10) pe_int (nomark _)) (pw_or1 (pt_cmpR op_eq (pe_h0 C__law_num (hr.mono (by omega)) (pa_cons (pe_ix ix_tup (pv 3) pe_int (fun _ _ => rfl)) (pa_cons (pv 5) pa_nil))) pe_int (nomark _))))) (pss_cons (ps_expr (pe_bm PySem.F.plainAttrs_list PySem.F.slot_list_append PySem.F.type_list_append mt_append (pe_dget (hu_of hr) (pv 1) pe_str (fun _ _ => rfl)) (pa_cons (pe_tup (pa_cons pe_str (pa_cons (pv 4) (pa_cons (pv 2) (pa_cons pe_str pa_nil))))) pa_nil))) (pss_one ps_break)) pss_nil) (pss_cons (ps_expr (pe_bm PySem.F.plainAttrs_list PySem.F.slot_list_append PySem.F.type_list_append mt_append (pe_dget (hu_of hr) (pv 1) pe_str (fun _ _ => rfl)) (pa_cons (pe_tup (pa_cons pe_str (pa_cons (pv 4) (pa_cons (pv 2) (pa_cons pe_str pa_nil))))) pa_nil))) (pss_one (ps_expr (pe_h0 C__law_plain (hr.mono (by omega)) (pa_cons (pe_ix ix_tup (pv 3) pe_int (fun _ _ => rfl)) (pa_cons (pv 1) (pa_cons (pe_op k_add (pv 2) pe_int) pa_nil))))))))))))))))) (pss_one (ps_set (i := 2) scLawPlain.nd rfl (Or.inl rfl) (pe_op k_add (pv 2) (pv 6)))))))))), ?_⟩
    wtm_at "kk"
    refine g_st (σ' := [some (.ref ab), some (.ref c.w), some (.int (p : Nat)), none, none, none, none, none, none, none, none]) rfl ?_
    wtm_at "go"
    refine KForT.mk (xs := xs) (fun i σ H' => ∃ x3 x4 x5 x6 x7 x8 x9 x10, σ = [some (.ref ab), some (.ref c.w), some (.int (p + szB (b.take i) : Nat)), x3, x4, x5, x6, x7, x8, x9, x10] ∧ Frm (c.own Es) H H' ∧ WH H' c Es (runB (b.take i) p W) (m + costB (b.take i)))
      (fun i σ H' _ h => by obtain ⟨_, _, _, _, _, _, _, _, _, h, _⟩ := h; exact h.tupS hb) ⟨none, none, none, none, none, none, none, none, rfl, Frm.refl _ _, hW⟩ (fun i x σ H' hx h => ?_) (fun σ H' h => ?_)
    · obtain ⟨x3, x4, x5, x6, x7, x8, x9, x10, rfl, fH, hWi⟩ := h
      obtain ⟨sm, hs, dS⟩ := (dX.frm fH).stm hx
      have hsm := List.mem_of_getElem? hs
      have gs := hg.at_ hsm
      have h1 := dp_mem hsm
      have h2 := sz_mem hsm
      have hcs : costB (b.take i) + sm.cost ≤ costB b := by
        have := costB_take b (i + 1)
        rw [take_snoc hs, costB_snoc] at this
        exact this
      have fin : ∀ (x3 x4 x5 x6 x7 x8 x9 x10 : Option V) (Hn : Hp), Frm (c.own Es) H' Hn → WH Hn c Es (runS sm (p + szB (b.take i)) (runB (b.take i) p W)) (m + costB (b.take i) + sm.cost) → ∃ y3 y4 y5 y6 y7 y8 y9 y10,
          [some (V.ref ab), some (.ref c.w), some (.int (((p + szB (b.take i) : Nat) : Int) + (sm.sz : Nat))), x3, x4, x5, x6, x7, x8, x9, x10] = [some (V.ref ab), some (.ref c.w), some (.int (p + szB (b.take (i + 1)) : Nat)), y3, y4, y5, y6, y7, y8, y9, y10] ∧
          Frm (c.own Es) H Hn ∧ WH Hn c Es (runB (b.take (i + 1)) p W) (m + costB (b.take (i + 1))) := fun x3 x4 x5 x6 x7 x8 x9 x10 Hn f hh => by
        refine ⟨x3, x4, x5, x6, x7, x8, x9, x10, ?_, fH.trans f, ?_⟩
        · rw [take_snoc hs, szB_snoc, ← Nat.add_assoc]; rfl
        · rw [take_snoc hs, runB_snoc, costB_snoc, ← Nat.add_assoc]; exact hh
      have hm1 : m + costB (b.take i) + sm.cost ≤ 900000 := by omega
      generalize p + szB (b.take i) = pp at fin ⊢
      generalize runB (b.take i) p W = W1 at fin hWi ⊢
      generalize m + costB (b.take i) = m1 at fin hWi hm1 ⊢
      have hz1 := fst_mem gs
      obtain ⟨b1, xr, rfl, hb1⟩ := dS.stm12
      obtain ⟨kw, w1, w2, w3, w4⟩ := hWi.hw
      obtain ⟨kv, v1, v2⟩ := hWi.hv
      have v3 := v2 _ hz1
      wtm_at "go"
      rename_i p2 H2 n2 f2 h2'
      refine to1 ⟨[sm], .tup h2' (.one (dS.frm f2)), Nat.lt_of_le_of_lt (dp_one hsm) (by omega), Nat.le_trans (sz_one hsm) (by omega), fun H3 f3 => ?_⟩
      have hsz1 : szB [sm] = sm.sz := by simp [szB]
      rw [hsz1]
      have f13 : Frm [] H' H3 := f2.trans f3
      have hW3 := hWi.frm f13
      have dS3 := dS.frm f13
      have fin3 : ∀ (x3 x4 x5 x6 x7 x8 x9 x10 : Option V) (Hn : Hp), Frm (c.own Es) H3 Hn → _ := fun x3 x4 x5 x6 x7 x8 x9 x10 Hn f => fin x3 x4 x5 x6 x7 x8 x9 x10 Hn (f13.any.trans f)
      clear fin hWi dS w1 w2 w3 w4 v1 v3 v2 hb1 f2 h2' f3 f13 fH
      wtm_at "gx"
      with_reducible refine g_seqM (fun σ1 H1 => ∃ y7 y8 y9 y10, σ1 = [some (.ref ab), some (.ref c.w), some (.int (pp : Nat)), some (.ref b1), some (.str (fst sm)), some (.ref (c.aF (fst sm))), some (.int (sm.sz : Nat)), y7, y8, y9, y10] ∧ Frm (c.own Es) H3 H1 ∧ WH H1 c Es (runS sm pp W1) (m1 + sm.cost)) (fun σ1 H5 hM => ?_) (fun N hN => ?_)
      · obtain ⟨y7, y8, y9, y10, rfl, f5, hW5⟩ := hM
        wtm_at "go"
        exact fin3 _ _ _ _ _ _ _ _ _ f5 hW5
      clear fin3
      have hc7 : Frm (c.own Es) H3 H3 := Frm.refl _ _
      cases sm with
      | call q es => obtain ⟨⟨q, hq, _⟩, _⟩ := gs; cases hq
      | msg f t l v y =>
        obtain ⟨b2, x0, x1, x2, x3, x4, x5, hbb, hb2, d0, d1, d2, d3, d4, d5⟩ := D.t6 dS3
        cases hbb; cases d0; cases d1; cases d2; cases d3; cases d5
        obtain ⟨g1, g2, g3, g4, g5⟩ := gs
        dsimp only [fst] at hz1 ⊢
        simp only [Stm.cost] at hN hm1
        obtain ⟨kw, w1, w2, w3, w4⟩ := hW3.hw
        obtain ⟨us, u1, du⟩ := hW3.hd
        obtain ⟨kv, v1, v2⟩ := hW3.hv
        have ul : us.length ≤ m1 := by rw [du.len, List.length_map]; exact hW3.hm
        obtain ⟨ka, a1, a2, a3⟩ := hW3.ha f hz1
        have hr1 := hW3.hr f hz1
        have hnr := num_range hr1 v g4.1
        wtm_at "go"
        refine to2 ⟨v, c.aF f, ka, _, d4, g4.1, by have := g4.2; omega, rfl, a1, a2, hr1, fun H4 f4 => ?_⟩
        wtm_at "go"
        rename_i p5 H5 n5 f5 h5
        have f35 := f4.trans f5
        refine g_app (f35.get0 u1) (by omega) ?_
        have hW5 := (hW3.frm f35).say (d := .send f t l (num (W1.vars f) v)) C (f35.get0 u1) (.tup h5 (.cons (.str _) (.cons (.str _) (.cons (.str _) (.cons (.str _) (.cons (.int _) .nil))))))
        have k5 : Frm (c.own Es) H3 _ := f35.any.trans (Frm.mut (u := .lst (us ++ [.ref p5])) WC.own_d (f35.get0 u1) nt_lst)
        generalize upd H5 c.dd (.lst (us ++ [.ref p5])) = H6 at hW5 k5 ⊢
        have hb6 := k5.tupS hb2
        clear w1 w2 w3 w4 u1 du v1 v2 a1 f35 f4 f5 h5
        obtain ⟨kw, w1, w2, w3, w4⟩ := hW5.hw
        clear ul
        obtain ⟨us, u1, du⟩ := hW5.hd
        obtain ⟨kv, v1, v2⟩ := hW5.hv
        have ul : us.length ≤ (m1 + 1) := by rw [du.len, List.length_map]; exact hW5.hm
        wtm_at "go"
        rename_i p7 H7 n7 f7 h7
        refine g_app (f7.get0 u1) (by omega) ?_
        have hW7 := (hW5.frm f7).say (d := .get t f l (num (W1.vars f) v)) C (f7.get0 u1) (.tup h7 (.cons (.str _) (.cons (.str _) (.cons (.str _) (.cons (.str _) (.cons (.int _) .nil))))))
        have k7 := (k5.trans f7.any).trans (Frm.mut (u := .lst (us ++ [.ref p7])) WC.own_d (f7.get0 u1) nt_lst)
        generalize upd H7 c.dd (.lst (us ++ [.ref p7])) = H8 at hW7 k7 ⊢
        have hb8 := k7.tupS hb2
        clear w1 w2 w3 w4 u1 du v1 v2 f7 h7 hb6
        obtain ⟨kw, w1, w2, w3, w4⟩ := hW7.hw
        obtain ⟨kv, v1, v2⟩ := hW7.hv
        have v3 := v2 t g2
        obtain ⟨ka, a1, a2, a3⟩ := hW7.ha t g2
        wtm_at "go"
        refine g_dputS a1 (by omega) ?_
        refine hN _ _ ⟨_, _, _, _, rfl, k7.trans (Frm.mut (WC.own_a g2) a1 nt_dK), ?_⟩
        have := hW7.put (x := y) C g2 a1 hnr
        rw [say_say] at this
        exact this
      | set e y v =>
        obtain ⟨b2, x0, x1, x2, x3, hbb, hb2, d0, d1, d2, d3⟩ := D.t4 dS3
        cases hbb; cases d0; cases d1; cases d2
        obtain ⟨g1, g2, g3⟩ := gs
        dsimp only [fst] at hz1 ⊢
        simp only [Stm.cost] at hN hm1
        obtain ⟨ka, a1, a2, a3⟩ := hW3.ha e hz1
        have hr1 := hW3.hr e hz1
        have hnr := num_range hr1 v g3.1
        wtm_at "go"
        refine to2 ⟨v, c.aF e, ka, _, d3, g3.1, by have := g3.2; omega, rfl, a1, a2, hr1, fun H4 f4 => ?_⟩
        wtm_at "go"
        refine g_dputS (f4.get0 a1) (by omega) ?_
        have hW5 := (hW3.frm f4).put (x := y) C hz1 (f4.get0 a1) hnr
        have k5 : Frm (c.own Es) H3 _ := f4.any.trans (Frm.mut (u := .dK (putK ka (Sum.inr y) (.int (num (W1.vars e) v)))) (WC.own_a hz1) (f4.get0 a1) nt_dK)
        have hA5 : upd H4 (c.aF e) (.dK (putK ka (Sum.inr y) (.int (num (W1.vars e) v)))) (c.aF e) = _ := upd_same
        have hv5 : valV (putK ka (Sum.inr y) (.int (num (W1.vars e) v))) (Sum.inr y) = some (.int (num (W1.vars e) v)) := by rw [valV_put, if_pos rfl]
        generalize upd H4 (c.aF e) (.dK (putK ka (Sum.inr y) (.int (num (W1.vars e) v)))) = H5 at hW5 k5 hA5 ⊢
        have hb5 := k5.tupS hb2
        clear a1 f4
        obtain ⟨kw, w1, w2, w3, w4⟩ := hW5.hw
        obtain ⟨us, u1, du⟩ := hW5.hd
        have ul : us.length ≤ (m1 + 1) := by rw [du.len, List.length_map]; exact hW5.hm
        wtm_at "go"
        rename_i p7 H7 n7 f7 h7
        refine g_app (f7.get0 u1) (by omega) ?_
        have hW7 := (hW5.frm f7).say (d := .set e y (num (W1.vars e) v)) C (f7.get0 u1) (.tup h7 (.cons (.str _) (.cons (.str _) (.cons (.str _) (.cons (.int _) .nil)))))
        exact hN _ _ ⟨_, _, _, _, rfl, (k5.trans f7.any).trans (Frm.mut WC.own_d (f7.get0 u1) nt_lst), hW7⟩
      | ask e y =>
        obtain ⟨b2, x0, x1, x2, hbb, hb2, d0, d1, d2⟩ := D.t3 dS3
        cases hbb; cases d0; cases d1; cases d2
        obtain ⟨g1, g2⟩ := gs
        dsimp only [fst] at hz1 ⊢
        simp only [Stm.cost] at hN hm1
        obtain ⟨ka, a1, a2, a3⟩ := hW3.ha e hz1
        obtain ⟨hb9, hn9, hl9⟩ := hW3.hb e hz1
        obtain ⟨kw, w1, w2, w3, w4⟩ := hW3.hw
        obtain ⟨kl, l1, l2⟩ := hW3.hl
        have l3 := l2 e hz1
        wtm_at "go"
        rename_i p4 H4 n4 f4 h4
        refine g_neNil (f4.get0 hb9) h4 DL.ofInts (shList (layInts _) (depInts _)) ?_
        have hb4 := f4.get0 hb2
        cases hle : W1.left e with
        | nil =>
          rw [show (!(List.map PyData.int ([] : List Int)).isEmpty) = false from rfl]
          wtm_at "go"
          have hWt := hW3.frm f4
          rw [← take_nil hle] at hWt
          have hzr : 0 ≤ (0 : Int) ∧ (0 : Int) < BIG := by decide
          have ft : Frm (c.own Es) H3 H4 := f4.any
          obtain ⟨kb, c1, c2, c3⟩ := hWt.ha e hz1
          refine g_dputS (c1) (by omega) ?_
          have hW5 := hWt.put (x := y) C hz1 (c1) hzr
          have k5 : Frm (c.own Es) H3 _ := ft.trans (Frm.mut (u := .dK (putK kb (Sum.inr y) (.int 0))) (WC.own_a hz1) (c1) nt_dK)
          have hA5 : upd H4 (c.aF e) (.dK (putK kb (Sum.inr y) (.int 0))) (c.aF e) = _ := upd_same
          have hv5 : valV (putK kb (Sum.inr y) (.int 0)) (Sum.inr y) = some (.int 0) := by rw [valV_put, if_pos rfl]
          generalize upd H4 (c.aF e) (.dK (putK kb (Sum.inr y) (.int 0))) = H5 at hW5 k5 hA5 ⊢
          have hb5 := k5.tupS hb2
          clear c1 w1 w2 w3 w4 l1 l3 a1
          obtain ⟨kw, w1, w2, w3, w4⟩ := hW5.hw
          obtain ⟨us, u1, du⟩ := hW5.hd
          have ul : us.length ≤ (m1 + 1) := by rw [du.len, List.length_map]; exact hW5.hm
          wtm_at "go"
          rename_i p7 H7 n7 f7 h7
          refine g_app (f7.get0 u1) (by omega) ?_
          have hW7 := (hW5.frm f7).say (d := .ask e y 0) C (f7.get0 u1) (.tup h7 (.cons (.str _) (.cons (.str _) (.cons (.str _) (.cons (.int _) .nil)))))
          refine hN _ _ ⟨_, _, _, _, rfl, (k5.trans f7.any).trans (Frm.mut WC.own_d (f7.get0 u1) nt_lst), ?_⟩
          simp only [runS, hle, List.headD_cons, List.headD_nil]
          exact hW7
        | cons z r =>
          rw [show (!(List.map PyData.int (z :: r)).isEmpty) = true from rfl]
          have hb94 := f4.get0 hb9
          rw [hle] at hb94
          wtm_at "go"
          refine ⟨c.bF e, (z :: r).map V.int, 0, 0, .int z, rfl, rfl, hb94, by decide, by decide, ?_, rfl, ?_⟩
          · rw [List.length_map, List.length_cons]; exact seq0 r.length
          have hWt := (hW3.frm f4).take C hz1
          have ft : Frm (c.own Es) H3 _ := f4.any.trans (Frm.mut (u := .lst ((W1.left e).tail.map V.int)) (WC.own_b hz1) hb94 nt_lst)
          have hzr := nums_ok z (hn9 z (by rw [hle]; exact List.mem_cons_self))
          rw [hle] at hWt ft
          rw [show ((z :: r).map V.int).eraseIdx 0 = (z :: r).tail.map V.int from rfl]
          generalize upd H4 (c.bF e) (.lst ((z :: r).tail.map V.int)) = Ht at hWt ft ⊢
          have hbt := ft.tupS hb2
          clear w1 w2 w3 w4 l1 l3 a1 hb94 hb4
          obtain ⟨kb, c1, c2, c3⟩ := hWt.ha e hz1
          wtm_at "go"
          refine g_dputS (c1) (by omega) ?_
          have hW5 := hWt.put (x := y) C hz1 (c1) hzr
          have k5 : Frm (c.own Es) H3 _ := ft.trans (Frm.mut (u := .dK (putK kb (Sum.inr y) (.int z))) (WC.own_a hz1) (c1) nt_dK)
          have hA5 : upd Ht (c.aF e) (.dK (putK kb (Sum.inr y) (.int z))) (c.aF e) = _ := upd_same
          have hv5 : valV (putK kb (Sum.inr y) (.int z)) (Sum.inr y) = some (.int z) := by rw [valV_put, if_pos rfl]
          generalize upd Ht (c.aF e) (.dK (putK kb (Sum.inr y) (.int z))) = H5 at hW5 k5 hA5 ⊢
          have hb5 := k5.tupS hb2
          clear c1
          obtain ⟨kw, w1, w2, w3, w4⟩ := hW5.hw
          obtain ⟨us, u1, du⟩ := hW5.hd
          have ul : us.length ≤ (m1 + 1) := by rw [du.len, List.length_map]; exact hW5.hm
          wtm_at "go"
          rename_i p7 H7 n7 f7 h7
          refine g_app (f7.get0 u1) (by omega) ?_
          have hW7 := (hW5.frm f7).say (d := .ask e y z) C (f7.get0 u1) (.tup h7 (.cons (.str _) (.cons (.str _) (.cons (.str _) (.cons (.int _) .nil)))))
          refine hN _ _ ⟨_, _, _, _, rfl, (k5.trans f7.any).trans (Frm.mut WC.own_d (f7.get0 u1) nt_lst), ?_⟩
          simp only [runS, hle, List.headD_cons, List.headD_nil]
          exact hW7
      | ite e v y n =>
        obtain ⟨b2, x0, x1, x2, x3, x4, hbb, hb2, d0, d1, d2, d3, d4⟩ := D.t5 dS3
        cases hbb; cases d0; cases d1
        obtain ⟨g1, g2⟩ := gs
        dsimp only [fst] at hz1 ⊢
        simp only [Stm.cost] at hN hm1
        obtain ⟨kw, w1, w2, w3, w4⟩ := hW3.hw
        obtain ⟨us, u1, du⟩ := hW3.hd
        have ul : us.length ≤ m1 := by rw [du.len, List.length_map]; exact hW3.hm
        obtain ⟨ka, a1, a2, a3⟩ := hW3.ha e hz1
        have hr1 := hW3.hr e hz1
        have my : y ∈ inn (.ite e v y n) := by simp [inn]
        have mn : n ∈ inn (.ite e v y n) := by simp [inn]
        have gy := hg.inn hsm my
        have gn := hg.inn hsm mn
        have hy := dp_inn my
        have hn := dp_inn mn
        have sy := sz_innM my
        have sn := sz_innM mn
        wtm_at "go"
        refine to2 ⟨v, c.aF e, ka, _, d2, g2.1, by have := g2.2; omega, rfl, a1, a2, hr1, fun H4 f4 => ?_⟩
        wtm_at "go"
        cases hq : (!decide (V.int (num (W1.vars e) v) = V.int 0)) with
        | true =>
          wtm_at "go"
          rename_i p5 H5 n5 f5 h5
          have f45 := f4.trans f5
          refine g_app (f45.get0 u1) (by omega) ?_
          have hW5 := (hW3.frm f45).say (d := .ite e true) C (f45.get0 u1) (.tup h5 (.cons (.str _) (.cons (.str _) (.cons (.str _) .nil))))
          have k5 : Frm (c.own Es) H3 _ := f45.any.trans (Frm.mut (u := .lst (us ++ [.ref p5])) WC.own_d (f45.get0 u1) nt_lst)
          generalize upd H5 c.dd (.lst (us ++ [.ref p5])) = H6 at hW5 k5 ⊢
          have hb6 := k5.tupS hb2
          clear w1 w2 w3 w4 u1 du a1 f45 f4 f5 h5
          wtm_at "go"
          refine to1 ⟨y, d3.frm k5, by omega, by omega, fun H7 f7 => ?_⟩
          wtm_at "go"
          refine to3 ⟨y, c, Es, W1.say [.ite e true], m1 + 1, pp + 1, (d3.frm k5).frm f7, gy, by omega, by omega, by omega, rfl, congrArg V.int (by omega), C, hW5.frm f7, by omega, fun H8 f8 h8 => ?_⟩
          wtm_at "go"
          refine hN _ _ ⟨_, _, _, _, rfl, (k5.trans f7.any).trans f8, ?_⟩
          rw [show runS (.ite e v y n) pp W1 = runB y (pp + 1) (W1.say [.ite e true]) from by
            have hnz : ¬ (num (W1.vars e) v = 0) := fun z => by rw [z] at hq; exact absurd hq (by decide)
            simp only [runS, ne_eq, hnz, not_false_eq_true, not_true_eq_false, if_true, if_false]]
          exact h8.mono (by omega)
        | false =>
          wtm_at "go"
          rename_i p5 H5 n5 f5 h5
          have f45 := f4.trans f5
          refine g_app (f45.get0 u1) (by omega) ?_
          have hW5 := (hW3.frm f45).say (d := .ite e false) C (f45.get0 u1) (.tup h5 (.cons (.str _) (.cons (.str _) (.cons (.str _) .nil))))
          have k5 : Frm (c.own Es) H3 _ := f45.any.trans (Frm.mut (u := .lst (us ++ [.ref p5])) WC.own_d (f45.get0 u1) nt_lst)
          generalize upd H5 c.dd (.lst (us ++ [.ref p5])) = H6 at hW5 k5 ⊢
          have hb6 := k5.tupS hb2
          clear w1 w2 w3 w4 u1 du a1 f45 f4 f5 h5
          wtm_at "go"
          refine to1 ⟨y, d3.frm k5, by omega, by omega, fun H7 f7 => ?_⟩
          wtm_at "go"
          refine to3 ⟨n, c, Es, W1.say [.ite e false], m1 + 1, pp + 1 + szB y, (d4.frm k5).frm f7, gn, by omega, by omega, by omega, rfl, congrArg V.int (by omega), C, hW5.frm f7, by omega, fun H8 f8 h8 => ?_⟩
          wtm_at "go"
          refine hN _ _ ⟨_, _, _, _, rfl, (k5.trans f7.any).trans f8, ?_⟩
          rw [show runS (.ite e v y n) pp W1 = runB n (pp + 1 + szB y) (W1.say [.ite e false]) from by
            have hnz :  (num (W1.vars e) v = 0) := by simpa using hq
            simp only [runS, ne_eq, hnz, not_false_eq_true, not_true_eq_false, if_true, if_false]]
          exact h8.mono (by omega)
      | whl e v y =>
        obtain ⟨b2, x0, x1, x2, x3, hbb, hb2, d0, d1, d2, d3⟩ := D.t4 dS3
        cases hbb; cases d0; cases d1
        obtain ⟨g1, g2⟩ := gs
        dsimp only [fst] at hz1 ⊢
        simp only [Stm.cost] at hN hm1
        have my : y ∈ inn (.whl e v y) := by simp [inn]
        have gy := hg.inn hsm my
        have hy := dp_inn my
        have sy := sz_innM my
        wtm_at "go"
        refine g_kR (n := 9) (by decide) ?_
        refine KForJ.mk (walk_range (lo := 0) (n := 9)) (fun k σ H' => ∃ y10 Wk, σ = [some (.ref ab), some (.ref c.w), some (.int (pp : Nat)), some (.ref b1), some (.str e), some (.ref (c.aF e)), some (.int ((Stm.whl e v y).sz : Nat)), x7, x8, x9, y10] ∧ k ≤ 8 ∧ Frm (c.own Es) H3 H' ∧ WH H' c Es Wk (m1 + k * (1 + costB y)) ∧
            runS (.whl e v y) pp W1 = whLoop (wC e v) (fun w => w.say [.whl e pp true]) (fun w => w.say [.whl e pp false]) (runB y (pp + 1)) (8 - k) Wk)
          ⟨_, W1, rfl, by decide, Frm.refl _ _, by rw [Nat.zero_mul, Nat.add_zero]; exact hW3, runS_whl _ _ _ _ _⟩ (fun _ _ _ _ _ => trivial) (fun k x σ H8 H7 hk h yy => ?_) (fun σ H' h => by obtain ⟨_, _, _, h, _⟩ := h; omega)
        obtain ⟨rfl, rfl⟩ := yy
        obtain ⟨y10, Wk, rfl, k8, fK, hK, hrun⟩ := h
        have hk8 : k * (1 + costB y) ≤ 8 * (1 + costB y) := Nat.mul_le_mul_right _ k8
        have hks : (k + 1) * (1 + costB y) = k * (1 + costB y) + (1 + costB y) := Nat.succ_mul _ _
        generalize k * (1 + costB y) = kc at hK hk8 hks
        obtain ⟨ka, a1, a2, a3⟩ := hK.ha e hz1
        have hr1 := hK.hr e hz1
        obtain ⟨kw, w1, w2, w3, w4⟩ := hK.hw
        obtain ⟨us, u1, du⟩ := hK.hd
        have ul : us.length ≤ m1 + kc := by rw [du.len, List.length_map]; exact hK.hm
        have hbK := fK.tupS hb2
        dsimp only
        rw [Int.zero_add]
        wtm_at "go"
        by_cases hk9 : k = 8
        · subst hk9
          rw [show decide (V.int ((8 : Nat) : Int) = V.int 8) = true from rfl]
          wtm_at "go"
          rename_i p5 H5 n5 f5 h5
          have f45 : Frm [] H7 H5 := f5
          refine g_app (f45.get0 u1) (by omega) ?_
          have hW5 := (hK.frm f45).say (d := .whl e pp false) C (f45.get0 u1) (.tup h5 (.cons (.str _) (.cons (.str _) (.cons (.int _) (.cons (.str _) .nil)))))
          wtm_at "go"
          with_reducible refine g_brk ?_
          refine hN _ _ ⟨_, _, _, _, rfl, (fK.trans f45.any).trans (Frm.mut WC.own_d (f45.get0 u1) nt_lst), ?_⟩
          rw [hrun]
          exact hW5.mono (by omega)
        · rw [show decide (V.int ((k : Nat) : Int) = V.int 8) = false from decide_eq_false (fun z => hk9 (by have := V.int.inj z; omega))]
          wtm_at "go"
          refine to2 ⟨v, c.aF e, ka, _, d2.frm fK, g2.1, by have := g2.2; omega, rfl, a1, a2, hr1, fun H4 f4 => ?_⟩
          wtm_at "go"
          cases hq : decide (V.int (num (Wk.vars e) v) = V.int 0) with
          | true =>
            have hc : wC e v Wk = false := by
              have : num (Wk.vars e) v = 0 := V.int.inj (of_decide_eq_true hq)
              simp [wC, this]
            rw [wh_no hc] at hrun
            wtm_at "go"
            rename_i p5 H5 n5 f5 h5
            have f45 : Frm [] H7 H5 := f4.trans f5
            refine g_app (f45.get0 u1) (by omega) ?_
            have hW5 := (hK.frm f45).say (d := .whl e pp false) C (f45.get0 u1) (.tup h5 (.cons (.str _) (.cons (.str _) (.cons (.int _) (.cons (.str _) .nil)))))
            wtm_at "go"
            with_reducible refine g_brk ?_
            refine hN _ _ ⟨_, _, _, _, rfl, (fK.trans f45.any).trans (Frm.mut WC.own_d (f45.get0 u1) nt_lst), ?_⟩
            rw [hrun]
            exact hW5.mono (by omega)
          | false =>
            have hc : wC e v Wk = true := by
              have : ¬ num (Wk.vars e) v = 0 := fun z => by rw [z] at hq; exact absurd hq (by decide)
              simp [wC, this]
            rw [show 8 - k = (8 - (k + 1)) + 1 from by omega, wh_yes hc] at hrun
            have hk7 : (k + 1) * (1 + costB y) ≤ 8 * (1 + costB y) := Nat.mul_le_mul_right _ (by omega)
            rw [hks] at hk7
            wtm_at "go"
            rename_i p5 H5 n5 f5 h5
            have f45 : Frm [] H7 H5 := f4.trans f5
            refine g_app (f45.get0 u1) (by omega) ?_
            have hW5 := (hK.frm f45).say (d := .whl e pp true) C (f45.get0 u1) (.tup h5 (.cons (.str _) (.cons (.str _) (.cons (.int _) (.cons (.str _) .nil)))))
            have k5 : Frm (c.own Es) H3 _ := (fK.trans f45.any).trans (Frm.mut (u := .lst (us ++ [.ref p5])) WC.own_d (f45.get0 u1) nt_lst)
            generalize upd H5 c.dd (.lst (us ++ [.ref p5])) = H6 at hW5 k5 ⊢
            have hb6 := k5.tupS hb2
            clear w1 w2 w3 w4 u1 du a1 f45 f4 f5 h5 hbK
            wtm_at "go"
            refine to3 ⟨y, c, Es, Wk.say [.whl e pp true], m1 + kc + 1, pp + 1, d3.frm k5, gy, by omega, by omega, by omega, rfl, congrArg V.int (by omega), C, hW5, by omega, fun H8 f8 h8 => ?_⟩
            wtm_at "go"
            refine ⟨_, _, rfl, by omega, k5.trans f8, ?_, hrun⟩
            rw [hks]
            exact h8.mono (by omega)
    · obtain ⟨x3, x4, x5, x6, x7, x8, x9, x10, rfl, fH, hWi⟩ := h
      rw [hxl, List.take_length] at hWi
      wtm_at "go"
      exact q H' fH hWi
end

theorem kr1 : ¬ (kS "vars" = kS "deeds") ∧ ¬ (kS "left" = kS "deeds") ∧ ¬ (kS "rows" = kS "deeds") ∧ ¬ (kS "deeds" = kS "vars") ∧ ¬ (kS "left" = kS "vars") ∧ ¬ (kS "rows" = kS "vars") := by decide +kernel
theorem kr2 : ¬ (kS "deeds" = kS "left") ∧ ¬ (kS "vars" = kS "left") ∧ ¬ (kS "rows" = kS "left") ∧ ¬ (kS "deeds" = kS "rows") ∧ ¬ (kS "vars" = kS "rows") ∧ ¬ (kS "left" = kS "rows") := by decide +kernel
def kwR (a b c d : V) : List (Key × V) := mergeK [] [(kS "deeds", a), (kS "vars", b), (kS "left", c), (kS "rows", d)]
theorem kw_at (a b c d : V) : valV (kwR a b c d) (Sum.inr "deeds") = some a ∧ valV (kwR a b c d) (Sum.inr "vars") = some b ∧ valV (kwR a b c d) (Sum.inr "left") = some c ∧ valV (kwR a b c d) (Sum.inr "rows") = some d := by
  obtain ⟨a1, a2, a3, a4, a5, a6⟩ := kr1
  obtain ⟨b1, b2, b3, b4, b5, b6⟩ := kr2
  refine ⟨?_, ?_, ?_, ?_⟩ <;> simp only [kwR, mergeK, List.foldl_cons, List.foldl_nil, valV_put, a1, a2, a3, a4, a5, a6, b1, b2, b3, b4, b5, b6, if_false, if_true]
/-- the world of a run while it is made: the ends of L have their places -/
structure RunI (H H' : Hp) (w dd vv ll rr : Addr) (kw : List (Key × V)) (L : List Str) (ins : Str → List Int) (aF bF : Str → Addr) : Prop where
  fr : Frm [] H H'
  hw : H' w = some (.dK kw)
  hd : H' dd = some (.lst [])
  hr : H' rr = some (.dK [])
  hv : ∃ kv, H' vv = some (.dK kv) ∧ kv.length ≤ L.length ∧ ∀ e ∈ L, valV kv (Sum.inr e) = some (.ref (aF e))
  hl : ∃ kv, H' ll = some (.dK kv) ∧ kv.length ≤ L.length ∧ ∀ e ∈ L, valV kv (Sum.inr e) = some (.ref (bF e))
  ha : ∀ e ∈ L, H' (aF e) = some (.dK []) ∧ H (aF e) = none
  hb : ∀ e ∈ L, H' (bF e) = some (.lst ((ins e).map V.int)) ∧ H (bF e) = none
  ai : ∀ e ∈ L, ∀ f ∈ L, aF e = aF f → e = f
  bi : ∀ e ∈ L, ∀ f ∈ L, bF e = bF f → e = f
  aw : ∀ e ∈ L, aF e ≠ w ∧ aF e ≠ vv ∧ aF e ≠ ll ∧ aF e ≠ rr
  bd : ∀ e ∈ L, bF e ≠ dd
structure RunD (H : Hp) (w dd vv ll rr : Addr) : Prop where
  nw : H w = none
  nd : H dd = none
  nv : H vv = none
  nl : H ll = none
  nr : H rr = none
  wv : w ≠ vv
  wl : w ≠ ll
  wr : w ≠ rr
  rv : rr ≠ vv
  rl : rr ≠ ll
  vl : vv ≠ ll
theorem RunI.step {H H' H3 : Hp} {w dd vv ll rr p q : Addr} {kw kv kl : List (Key × V)} {L : List Str} {ins : Str → List Int} {aF bF : Str → Addr} {e : Str} (I : RunI H H' w dd vv ll rr kw L ins aF bF) (D : RunD H w dd vv ll rr) (he : e ∉ L)
    (np : H' p = none) (ev : H' vv = some (.dK kv)) (el : H' ll = some (.dK kl)) (f : Frm [] (upd (upd H' p (.dK [])) vv (.dK (putK kv (Sum.inr e) (.ref p)))) H3) (nq : (upd (upd H' p (.dK [])) vv (.dK (putK kv (Sum.inr e) (.ref p)))) q = none) (hq : H3 q = some (.lst ((ins e).map V.int))) :
    RunI H (upd H3 ll (.dK (putK kl (Sum.inr e) (.ref q)))) w dd vv ll rr kw (L ++ [e]) ins (fun x => if x = e then p else aF x) (fun x => if x = e then q else bF x) := by
  have pv : vv ≠ p := ne_of_none ev np
  have pl : ll ≠ p := ne_of_none el np
  have keep2 : ∀ a o, H' a = some o → a ≠ vv → (upd (upd H' p (.dK [])) vv (.dK (putK kv (Sum.inr e) (.ref p)))) a = some o := fun a o h1 h2 => by
    rw [upd_ne h2, upd_ne (ne_of_none h1 np)]; exact h1
  have keep : ∀ a o, H' a = some o → a ≠ vv → a ≠ ll → (upd H3 ll (.dK (putK kl (Sum.inr e) (.ref q)))) a = some o := fun a o h1 h2 h3 => by
    rw [upd_ne h3]; exact f.get0 (keep2 a o h1 h2)
  have ql : ll ≠ q := ne_of_none (keep2 _ _ el (Ne.symm D.vl)) nq
  have nes : ∀ x ∈ L, x ≠ e := fun x hx z => he (z ▸ hx)
  have hpa : ∀ x ∈ L, aF x ≠ p := fun x hx => ne_of_none (I.ha x hx).1 np
  have bvl : ∀ x ∈ L, bF x ≠ vv ∧ bF x ≠ ll := fun x hx => ⟨fun z => (by have := (I.hb x hx).1; rw [z, ev] at this; cases this), fun z => (by have := (I.hb x hx).1; rw [z, el] at this; cases this)⟩
  have hqb : ∀ x ∈ L, bF x ≠ q := fun x hx => ne_of_none (keep2 _ _ (I.hb x hx).1 (bvl x hx).1) nq
  have dv : dd ≠ vv ∧ dd ≠ ll := ⟨fun z => (by have := I.hd; rw [z, ev] at this; cases this), fun z => (by have := I.hd; rw [z, el] at this; cases this)⟩
  have f12 : Frm [] H (upd (upd H' p (.dK [])) vv (.dK (putK kv (Sum.inr e) (.ref p)))) := (I.fr.trans (Frm.new np)).loc D.nv
  have cs : ∀ x ∈ L ++ [e], x ∈ L ∨ x = e := fun x hx => (List.mem_append.mp hx).imp id List.mem_singleton.mp
  obtain ⟨kv', v1, v2, v3⟩ := I.hv
  obtain ⟨kl', l1, l2, l3⟩ := I.hl
  cases ev.symm.trans v1
  cases el.symm.trans l1
  refine ⟨(f12.trans f).loc D.nl, keep _ _ I.hw D.wv D.wl, keep _ _ I.hd dv.1 dv.2, keep _ _ I.hr D.rv D.rl, ⟨putK kv (Sum.inr e) (.ref p), ?_, ?_, fun x hx => ?_⟩, ⟨putK kl (Sum.inr e) (.ref q), upd_same, ?_, fun x hx => ?_⟩, fun x hx => ?_, fun x hx => ?_, fun x hx y hy => ?_, fun x hx y hy => ?_, fun x hx => ?_, fun x hx => ?_⟩
  · rw [upd_ne D.vl]; exact f.get0 upd_same
  · have := length_putK kv (Sum.inr e) (.ref p)
    rw [List.length_append, List.length_singleton]; omega
  · rw [valV_put]
    rcases cs x hx with h | rfl
    · rw [if_neg (fun z => nes x h (Sum.inr.inj z)), if_neg (nes x h)]; exact v3 x h
    · rw [if_pos rfl, if_pos rfl]
  · have := length_putK kl (Sum.inr e) (.ref q)
    rw [List.length_append, List.length_singleton]; omega
  · rw [valV_put]
    rcases cs x hx with h | rfl
    · rw [if_neg (fun z => nes x h (Sum.inr.inj z)), if_neg (nes x h)]; exact l3 x h
    · rw [if_pos rfl, if_pos rfl]
  · rcases cs x hx with h | rfl
    · rw [if_neg (nes x h)]
      exact ⟨keep _ _ (I.ha x h).1 (I.aw x h).2.1 (I.aw x h).2.2.1, (I.ha x h).2⟩
    · rw [if_pos rfl]
      exact ⟨by rw [upd_ne (Ne.symm pl)]; exact f.get0 (by rw [upd_ne (Ne.symm pv)]; exact upd_same), I.fr.back0 np⟩
  · rcases cs x hx with h | rfl
    · rw [if_neg (nes x h)]
      exact ⟨keep _ _ (I.hb x h).1 (bvl x h).1 (bvl x h).2, (I.hb x h).2⟩
    · rw [if_pos rfl]
      exact ⟨by rw [upd_ne (Ne.symm ql)]; exact hq, f12.back0 nq⟩
  · rcases cs x hx with h | rfl <;> rcases cs y hy with h' | rfl
    · rw [if_neg (nes x h), if_neg (nes y h')]; exact I.ai x h y h'
    · rw [if_neg (nes x h), if_pos rfl]; exact fun z => absurd z (hpa x h)
    · rw [if_neg (nes y h'), if_pos rfl]; exact fun z => absurd z.symm (hpa y h')
    · exact fun _ => rfl
  · rcases cs x hx with h | rfl <;> rcases cs y hy with h' | rfl
    · rw [if_neg (nes x h), if_neg (nes y h')]; exact I.bi x h y h'
    · rw [if_neg (nes x h), if_pos rfl]; exact fun z => absurd z (hqb x h)
    · rw [if_neg (nes y h'), if_pos rfl]; exact fun z => absurd z.symm (hqb y h')
    · exact fun _ => rfl
  · rcases cs x hx with h | rfl
    · rw [if_neg (nes x h)]; exact I.aw x h
    · rw [if_pos rfl]
      exact ⟨Ne.symm (ne_of_none I.hw np), Ne.symm pv, Ne.symm pl, Ne.symm (ne_of_none I.hr np)⟩
  · rcases cs x hx with h | rfl
    · rw [if_neg (nes x h)]; exact I.bd x h
    · rw [if_pos rfl]
      exact Ne.symm (ne_of_none (keep2 _ _ I.hd dv.1) nq)
theorem RunI.start {H H1 : Hp} {wr dd vv ll rr : Addr} (nw : H wr = none) (n1 : upd H wr (.dK []) dd = none) (f1 : Frm [] (upd H wr (.dK [])) H1) (h1 : H1 dd = some (.lst [])) (n2 : H1 vv = none) (n3 : upd H1 vv (.dK []) ll = none)
    (n4 : upd (upd H1 vv (.dK [])) ll (.dK []) rr = none) (kw : List (Key × V)) (ins : Str → List Int) (aF bF : Str → Addr) :
    RunD H wr dd vv ll rr ∧ upd (upd (upd H1 vv (.dK [])) ll (.dK [])) rr (.dK []) wr = some (.dK []) ∧ RunI H (upd (upd (upd (upd H1 vv (.dK [])) ll (.dK [])) rr (.dK [])) wr (.dK kw)) wr dd vv ll rr kw [] ins aF bF := by
  have f0 : Frm [] H (upd H wr (.dK [])) := Frm.new nw
  have fH1 : Frm [] H H1 := f0.trans f1
  have w1 : H1 wr = some (.dK []) := f1.get0 upd_same
  have f2 : Frm [] H1 (upd H1 vv (.dK [])) := Frm.new n2
  have f3 : Frm [] (upd H1 vv (.dK [])) (upd (upd H1 vv (.dK [])) ll (.dK [])) := Frm.new n3
  have f4 : Frm [] (upd (upd H1 vv (.dK [])) ll (.dK [])) (upd (upd (upd H1 vv (.dK [])) ll (.dK [])) rr (.dK [])) := Frm.new n4
  have w2 := f2.get0 w1
  have w3 := f3.get0 w2
  have w4 := f4.get0 w3
  have v3 : upd (upd H1 vv (.dK [])) ll (.dK []) vv = some (.dK []) := f3.get0 upd_same
  have wd : dd ≠ wr := Ne.symm (ne_of_none (upd_same : upd H wr (.dK []) wr = some (.dK [])) n1)
  have d : RunD H wr dd vv ll rr := ⟨nw, f0.back0 n1, fH1.back0 n2, (fH1.trans f2).back0 n3, ((fH1.trans f2).trans f3).back0 n4, ne_of_none w1 n2, ne_of_none w2 n3, ne_of_none w3 n4,
    Ne.symm (ne_of_none v3 n4), Ne.symm (ne_of_none (upd_same : upd (upd H1 vv (.dK [])) ll (.dK []) ll = some (.dK [])) n4), ne_of_none (upd_same : upd H1 vv (.dK []) vv = some (.dK [])) n3⟩
  refine ⟨d, w4, (((fH1.trans f2).trans f3).trans f4).loc nw, upd_same, ?_, ?_, ⟨[], ?_, Nat.le_refl _, (fun e he => nomatch he)⟩, ⟨[], ?_, Nat.le_refl _, (fun e he => nomatch he)⟩, (fun e he => nomatch he), (fun e he => nomatch he), (fun e he => nomatch he), (fun e he => nomatch he), (fun e he => nomatch he), (fun e he => nomatch he)⟩
  · rw [upd_ne wd]; exact f4.get0 (f3.get0 (f2.get0 h1))
  · rw [upd_ne (Ne.symm d.wr)]; exact upd_same
  · rw [upd_ne (Ne.symm d.wv)]; exact f4.get0 v3
  · rw [upd_ne (Ne.symm d.wl)]; exact f4.get0 upd_same
theorem nd_take {α : Type} {l : List α} {i : Nat} {x : α} (nd : l.Nodup) (h : l[i]? = some x) : x ∉ l.take i := by
  intro hx
  obtain ⟨j, hj⟩ := List.mem_iff_getElem?.mp hx
  have hjl := (List.getElem?_eq_some_iff.mp hj).1
  rw [List.length_take] at hjl
  rw [List.getElem?_take_of_lt (by omega)] at hj
  have := (List.getElem?_inj (i := j) (j := i) (by omega) nd).mp (hj.trans h.symm)
  omega
theorem filt_snoc {ds : List Deed} {j : Nat} {d : Deed} (h : ds[j]? = some d) (e : Str) : (ds.take (j + 1)).filter (fun d => decide (d.who = e)) = (ds.take j).filter (fun d => decide (d.who = e)) ++ if d.who = e then [d] else [] := by
  rw [take_snoc h, List.filter_append]
  by_cases c : d.who = e <;> simp [c]
theorem DL.wo {H : Hp} {rr : Addr} {kr : List (Key × V)} {us : List V} {ds : List PyData} (hr : H rr = some (.dK kr)) (h : DL H us ds) : DL (K34.wo H rr) us ds :=
  h.up fun t xs ht => by rw [wo_ne (fun z => by rw [z, hr] at ht; cases ht)]; exact ht
theorem ps_nil : PsOk [] := ⟨Nat.zero_le _, rfl, fun j q h => by simp at h⟩
/-- the world before the first step -/
def W0 (ins : Str → List Int) : Wd := ⟨fun _ _ => 0, ins, []⟩
theorem RunI.world {H H' : Hp} {w dd vv ll rr : Addr} {L : List Str} {ins : Str → List Int} {aF bF : Str → Addr} (I : RunI H H' w dd vv ll rr (kwR (.ref dd) (.ref vv) (.ref ll) (.ref rr)) L ins aF bF) (h : ∀ e ∈ L, (∀ z ∈ ins e, z ∈ nums) ∧ (ins e).length ≤ 3) :
    WCd ⟨w, dd, vv, ll, aF, bF⟩ L ∧ WH H' ⟨w, dd, vv, ll, aF, bF⟩ L (W0 ins) 0 := by
  obtain ⟨k1, k2, k3, k4⟩ := kw_at (.ref dd) (.ref vv) (.ref ll) (.ref rr)
  obtain ⟨kv, v1, v2, v3⟩ := I.hv
  obtain ⟨kl, l1, l2, l3⟩ := I.hl
  exact ⟨⟨I.ai, I.bi, fun e he => ⟨(I.aw e he).1, (I.aw e he).2.1, (I.aw e he).2.2.1⟩, I.bd⟩,
    ⟨_, I.hw, k1, k2, k3⟩, ⟨[], I.hd, .nil⟩, ⟨kv, v1, v3⟩, ⟨kl, l1, l3⟩, fun e he => ⟨[], (I.ha e he).1, fun x => rfl, Nat.le_refl _⟩, fun e he x => ⟨Int.le_refl 0, (by decide : (0 : Int) < BIG)⟩, fun e he => ⟨(I.hb e he).1, h e he⟩, Nat.le_refl _⟩
/-- the rows that stand in a dict -/
def RowsOk (H : Hp) (kv : List (Key × V)) (L : List Str) (ds : List Deed) : Prop := ∀ e ∈ L, ∃ l us, valV kv (Sum.inr e) = some (.ref l) ∧ H l = some (.lst us) ∧ DL H us ((ds.filter fun d => decide (d.who = e)).map encD)
theorem D.deed2 {H : Hp} {v : V} {d : Deed} (h : D H v (encD d)) : ∃ b x0 xs, v = .ref b ∧ H b = some (.tup (x0 :: .str d.who :: xs)) := by
  cases d with
  | send f t l n =>
    obtain ⟨b, x0, x1, x2, x3, x4, rfl, hb, d0, d1, d2, d3, d4⟩ := D.t5 h
    cases d1
    exact ⟨b, _, _, rfl, hb⟩
  | get f t l n =>
    obtain ⟨b, x0, x1, x2, x3, x4, rfl, hb, d0, d1, d2, d3, d4⟩ := D.t5 h
    cases d1
    exact ⟨b, _, _, rfl, hb⟩
  | set e x n =>
    obtain ⟨b, x0, x1, x2, x3, rfl, hb, d0, d1, d2, d3⟩ := D.t4 h
    cases d1
    exact ⟨b, _, _, rfl, hb⟩
  | ask e x n =>
    obtain ⟨b, x0, x1, x2, x3, rfl, hb, d0, d1, d2, d3⟩ := D.t4 h
    cases d1
    exact ⟨b, _, _, rfl, hb⟩
  | ite e y =>
    obtain ⟨b, x0, x1, x2, rfl, hb, d0, d1, d2⟩ := D.t3 h
    cases d1
    exact ⟨b, _, _, rfl, hb⟩
  | whl e q y =>
    obtain ⟨b, x0, x1, x2, x3, rfl, hb, d0, d1, d2, d3⟩ := D.t4 h
    cases d1
    exact ⟨b, _, _, rfl, hb⟩
section
variable {P : Program} {w : World} {K : PySem.W.Frag} {mg : Str → Option Value} {base : Heap}
abbrev sLawRun : Stmt := top 65
theorem scLawRun : FnScope ["_law_tree_here", "_law_inputs_here", "_law_w", "_law_end", "_law_deed"] ["_law_tree_here", "_law_inputs_here"] (defScope sLawRun) := ⟨rfl, rfl, rfl, by decide +kernel, rfl, by decide +kernel, by decide +kernel⟩
def pRun (tr ip : V) (H : Hp) (Q : VK) (_ : XK) : Prop := ∃ (Es : List Str) (B : List Stm) (dk : Addr) (kv : List (Key × V)) (ins : Str → List Int), D H tr (encT Es B) ∧ EsOk Es ∧ gB Es [] B ∧ okTree Es B = true ∧ dpB B < 7 ∧ ip = .ref dk ∧ H dk = some (.dK kv) ∧ InpOk H kv Es ins ∧
  ∀ (wr rr : Addr) kw kr H2, Frm [] H H2 → H2 wr = some (.dK kw) → valV kw (Sum.inr "rows") = some (.ref rr) → H2 rr = some (.dK kr) → RowsOk H2 kr Es (runB B 0 (W0 ins)).deeds → (runB B 0 (W0 ins)).deeds.length ≤ 900000 → Q (.ref wr) H2
theorem ok_run (T : Tx K mg) (A : At K mg "_law_run" sLawRun ["_law_tree_here", "_law_inputs_here"]) (C__law_play : Has P w K mg base CX0 "_law_play" ["_law_tree_here"] 32 (sp1 pPlay))
    (C__law_plain : Has P w K mg base CX0 "_law_plain" ["_law_block_here", "_law_w", "_law_at"] 18 (sp3 (pPlain 7))) : Has P w K mg base CX0 "_law_run" ["_law_tree_here", "_law_inputs_here"] 33 (sp2 pRun) := by
  refine has_mk A scLawRun (fun vs H Q E h => by obtain ⟨_, _, rfl, _⟩ := h; rfl) fun f cdv A outer s H vs Q E hr h => ?_
  obtain ⟨tr, ip, rfl, Es, B, dk, kv, ins, dT, EO, hg, hok, hdp, rfl, hdk, hin, q⟩ := h
  obtain ⟨a, e, pp, b, rfl, ha, he, hpp, dB⟩ := dT.tree
  have hcost := cost_ok hok
  have hsz : szB B ≤ 150 := by
    rw [okTree, Bool.and_eq_true, Bool.and_eq_true] at hok
    exact of_decide_eq_true hok.2.2
  refine ⟨_, (pss_cons (ps_set (i := 2) scLawRun.nd rfl (Or.inl rfl) (pe_disp (pps_cons pe_str (pe_lst pa_nil) (pps_cons pe_str pe_dnewK (pps_cons pe_str pe_dnewK (pps_cons pe_str pe_dnewK pps_nil)))) (by rfl) (by rfl) (fun z => by cases z) (by decide))) (pss_cons (ps_for PassesOwn.never rfl (pi_tup (pe_ix ix_tup (pv 0) pe_int (fun _ _ => rfl))) (pg_name (i := 3) scLawRun.nd rfl (Or.inr rfl)) (pss_cons (ps_dput (hu_of hr) (pe_dget (hu_of hr) (pv 2) pe_str (fun _ _ => rfl)) (pv 3) pe_dnewK rfl) (pss_one (ps_dput (hu_of hr) (pe_dget (hu_of hr) (pv 2) pe_str (fun _ _ => rfl)) (pv 3) (pe_callTy k_lst (by rfl) T.list (by decide +kernel) (pa_cons (pe_dget (hu_of hr) (pv 1) (pv 3) (fun _ _ => rfl)) pa_nil)) rfl)))) (pss_cons (ps_expr (pe_h0 C__law_plain (hr.mono (by omega)) (pa_cons (pe_h0 C__law_play (hr.mono (by omega)) (pa_cons (pv 0) pa_nil)) (pa_cons (pv 2) (pa_cons pe_int pa_nil))))) (pss_cons (ps_for PassesOwn.never rfl (pi_tup (pe_ix ix_tup (pv 0) pe_int (fun _ _ => rfl))) (pg_name (i := 3) scLawRun.nd rfl (Or.inr rfl)) (pss_one (ps_dput (hu_of hr) (pe_dget (hu_of hr) (pv 2) pe_str (fun _ _ => rfl)) (pv 3) (pe_lc (own := [("_law_deed", 4)]) rfl scLawRun.nd (pi_list (pe_dget (hu_of hr) (pv 2) pe_str (fun _ _ => rfl))) (blkOk_by (own := [("_law_deed", 4)]) (N := ["_law_tree_here", "_law_inputs_here", "_law_w", "_law_end", "_law_deed"]) (sc := defScope sLawRun) (by decide +kernel)) (fun _ _ _ _ _ => (pg_name (i := 4) scLawRun.nd rfl (Or.inl rfl))) (fun _ _ _ _ _ => (pts_one (pt_cmpR op_eq (pe_ix (b_ixT K) (pv 4) pe_int (fun _ _ => rfl)) (pv 3) (nomark _)))) (fun _ _ _ _ _ => (pv 4))) rfl))) (pss_one (ps_ret (pv 2))))))), ?_⟩
  wtm_at "kk"
  refine g_st (σ' := [some (.ref a), some (.ref dk), none, none, none]) rfl ?_
  wtm_at "go"
  refine fun wr nw => ?_
  dsimp only [tPairs, tC]
  wtm_at "gx"
  rename_i dd H1 n1 f1 h1
  refine fun vv n2 => ?_
  refine fun ll n3 => ?_
  refine fun rr n4 => ?_
  obtain ⟨D, w4, I⟩ := RunI.start nw n1 f1 h1 n2 n3 n4 (kwR (.ref dd) (.ref vv) (.ref ll) (.ref rr)) ins (fun _ => 0) (fun _ => 0)
  refine ⟨w4, [(kS "deeds", .ref dd), (kS "vars", .ref vv), (kS "left", .ref ll), (kS "rows", .ref rr)], rfl, Nat.le_of_ble_eq_true rfl, ?_⟩
  unfold kwR at I
  generalize upd (upd (upd (upd H1 vv (.dK [])) ll (.dK [])) rr (.dK [])) wr (.dK (mergeK [] [(kS "deeds", V.ref dd), (kS "vars", .ref vv), (kS "left", .ref ll), (kS "rows", .ref rr)])) = H5 at I ⊢
  rw [show mergeK [] [(kS "deeds", V.ref dd), (kS "vars", .ref vv), (kS "left", .ref ll), (kS "rows", .ref rr)] = kwR (.ref dd) (.ref vv) (.ref ll) (.ref rr) from rfl] at I
  obtain ⟨k1, k2, k3, k4⟩ := kw_at (.ref dd) (.ref vv) (.ref ll) (.ref rr)
  generalize hkw : kwR (.ref dd) (.ref vv) (.ref ll) (.ref rr) = kw at I k1 k2 k3 k4
  have ha5 := I.fr.get0 ha
  have he5 := I.fr.get0 he
  clear f1 h1 n2 n3 n4 n1 w4
  wtm_at "go"
  refine KForT.mk (xs := Es.map V.str) (fun i σ H' => ∃ x3 aF bF, σ = [some (.ref a), some (.ref dk), some (.ref wr), x3, none] ∧ RunI H H' wr dd vv ll rr kw (Es.take i) ins aF bF)
    (fun i σ H' _ h => by obtain ⟨_, _, _, _, h⟩ := h; exact h.fr.get0 he) ⟨none, fun _ => 0, fun _ => 0, rfl, I⟩ (fun i x σ H' hx h => ?_) (fun σ H' h => ?_)
  · clear I ha5 he5
    obtain ⟨x3, aF, bF, rfl, I⟩ := h
    obtain ⟨z, hz, rfl⟩ := getMapStr hx
    have hi := (List.getElem?_eq_some_iff.mp hz).1
    have h6 := EO.l6
    have ht : (Es.take i).length ≤ i := by rw [List.length_take]; omega
    obtain ⟨kv1, v1, v2, v3⟩ := I.hv
    obtain ⟨kl1, l1, l2, l3⟩ := I.hl
    have hw := I.hw
    obtain ⟨le, i1, i2, i3⟩ := hin z (List.mem_of_getElem? hz)
    wtm_at "go"
    refine fun p np => ?_
    have fp : Frm [] H' (upd H' p (.dK [])) := Frm.new np
    wtm_at "go"
    refine g_dputS (fp.get0 v1) (by omega) ?_
    have f2 : Frm [] H (upd (upd H' p (.dK [])) vv (.dK (putK kv1 (Sum.inr z) (.ref p)))) := (I.fr.trans fp).loc D.nv
    have hw2 : (upd (upd H' p (.dK [])) vv (.dK (putK kv1 (Sum.inr z) (.ref p)))) wr = some (.dK kw) := by rw [upd_ne D.wv]; exact fp.get0 hw
    have hl2 : (upd (upd H' p (.dK [])) vv (.dK (putK kv1 (Sum.inr z) (.ref p)))) ll = some (.dK kl1) := by rw [upd_ne (Ne.symm D.vl)]; exact fp.get0 l1
    have st := fun q H3 f nq hq => I.step (p := p) (q := q) (H3 := H3) D (nd_take EO.nd hz) np v1 l1 f nq hq
    generalize upd (upd H' p (.dK [])) vv (.dK (putK kv1 (Sum.inr z) (.ref p))) = G2 at f2 hw2 hl2 st ⊢
    clear hw v1 l1 fp
    have hdk2 := f2.get0 hdk
    have i22 := f2.get0 i2
    wtm_at "go"
    refine g_lstL i22 (fun q H3 nq f3 h3 => ?_)
    wtm_at "go"
    refine g_dputS (f3.get0 hl2) (by omega) ?_
    refine ⟨_, fun x => if x = z then p else aF x, fun x => if x = z then q else bF x, rfl, ?_⟩
    rw [take_snoc hz]
    exact st q H3 f3 nq h3
  · clear I ha5 he5
    obtain ⟨x3, aF, bF, rfl, I⟩ := h
    rw [List.length_map, List.take_length] at I
    have I2 := I
    rw [← hkw] at I2
    obtain ⟨C, hWH⟩ := I2.world (fun e he => by obtain ⟨le, a, b, c⟩ := hin e he; exact c)
    clear I2
    have ha5 := I.fr.get0 ha
    wtm_at "go"
    refine to1 ⟨Es, [], B, dT.frm I.fr, EO, ps_nil, hg, by omega, by simp; omega, fun v H8 b' f8 d8 _ _ _ hb => ?_⟩
    rw [hb rfl] at d8
    wtm_at "go"
    refine to3 ⟨B, ⟨wr, dd, vv, ll, aF, bF⟩, Es, W0 ins, 0, 0, d8, hg, by omega, by omega, by omega, rfl, rfl, C, hWH.frm f8, by omega, fun H9 f9 h9 => ?_⟩
    have own : ∀ x ∈ (WC.mk wr dd vv ll aF bF).own Es, x = dd ∨ (∃ e ∈ Es, x = aF e) ∨ ∃ e ∈ Es, x = bF e := fun x hx => by
      rcases List.mem_cons.mp hx with h | h
      · exact .inl h
      · rcases List.mem_append.mp h with h | h
        · obtain ⟨e, he, rfl⟩ := List.mem_map.mp h
          exact .inr (.inl ⟨e, he, rfl⟩)
        · obtain ⟨e, he, rfl⟩ := List.mem_map.mp h
          exact .inr (.inr ⟨e, he, rfl⟩)
    have ownN : ∀ x ∈ (WC.mk wr dd vv ll aF bF).own Es, H x = none := fun x hx => by
      rcases own x hx with rfl | ⟨e, he, rfl⟩ | ⟨e, he, rfl⟩
      · exact D.nd
      · exact (I.ha e he).2
      · exact (I.hb e he).2
    have rrN : rr ∉ (WC.mk wr dd vv ll aF bF).own Es := fun hx => by
      rcases own rr hx with rfl | ⟨e, he, h⟩ | ⟨e, he, h⟩
      · have := I.hr; rw [I.hd] at this; cases this
      · exact (I.aw e he).2.2.2 h.symm
      · have := I.hr; rw [h, (I.hb e he).1] at this; cases this
    have wrN : wr ∉ (WC.mk wr dd vv ll aF bF).own Es := fun hx => by
      rcases own wr hx with rfl | ⟨e, he, h⟩ | ⟨e, he, h⟩
      · have := I.hw; rw [I.hd] at this; cases this
      · exact (I.aw e he).1 h.symm
      · have := I.hw; rw [h, (I.hb e he).1] at this; cases this
    have fr9 : Frm [] H H9 := (I.fr.trans f8).cut f9 ownN
    have rr9 : H9 rr = some (.dK []) := f9.keep rr _ rrN (f8.get0 I.hr)
    have w9 : H9 wr = some (.dK kw) := f9.keep wr _ wrN (f8.get0 I.hw)
    obtain ⟨us, u1, du⟩ := h9.hd
    dsimp only at u1
    have hm9 := h9.hm
    clear h9 f9 own ownN rrN wrN hWH C f8 d8 I ha5
    have ha9 := fr9.get0 ha
    have he9 := fr9.get0 he
    have ddr : dd ≠ rr := fun z => by rw [z, rr9] at u1; cases u1
    have hlen : (runB B 0 (W0 ins)).deeds.length ≤ 900000 := by omega
    generalize (runB B 0 (W0 ins)).deeds = ds at q du hlen
    have usl : us.length = ds.length := by rw [du.len, List.length_map]
    wtm_at "go"
    refine KForT.mk (xs := Es.map V.str) (fun i σ H' => ∃ x3 x4 kr, σ = [some (.ref a), some (.ref dk), some (.ref wr), x3, x4] ∧ Frm [rr] H9 H' ∧ H' rr = some (.dK kr) ∧ kr.length ≤ i ∧ RowsOk (wo H' rr) kr (Es.take i) ds)
      (fun i σ H' _ h => by obtain ⟨_, _, _, _, h, _⟩ := h; exact h.tupS he9) ⟨_, none, [], rfl, Frm.refl _ _, rr9, Nat.le_refl _, (fun e he => by simp at he)⟩ (fun i x σ H' hx h => ?_) (fun σ H' h => ?_)
    · obtain ⟨x3, x4, kr, rfl, fH, hr1, hkl, hro⟩ := h
      obtain ⟨z, hz, rfl⟩ := getMapStr hx
      have hi := (List.getElem?_eq_some_iff.mp hz).1
      have h6 := EO.l6
      have w1 : H' wr = some (.dK kw) := fH.at1 D.wr w9
      have u2 : H' dd = some (.lst us) := fH.at1 ddr u1
      have du2 := du.frm fH
      clear u1 w9 rr9 ha9 he9
      wtm_at "go"
      refine KLc.mk (walk_list (xs := us)) fun Dr hD => ⟨fun j H2 => LI [] H' Dr (((ds.take j).filter fun d => decide (d.who = z)).map encD) H2, .new (Frm.new hD) upd_same, fun j H2 _ h => SqL.of (h.fr.get0 u2), fun j x H3 H2 hj h yy => ?_, fun H2 h => ?_⟩
      · obtain ⟨rfl, hx⟩ := yy
        obtain ⟨dd', hdd', dx⟩ := (du2.frm h.fr).getV hx
        rw [List.getElem?_map] at hdd'
        cases hzz : ds[j]? with
        | none => rw [hzz] at hdd'; cases hdd'
        | some d1 =>
          rw [hzz] at hdd'
          obtain rfl := Option.some.inj hdd'
          obtain ⟨b1, y0, ys, rfl, hb1⟩ := dx.deed2
          have hfl := filt_snoc hzz z
          wtm_at "wi"
          wtm_at "go"
          refine g_tst (fun hc => ?_) (fun hc => ?_)
          · wtm_at "go"
            have hc2 : d1.who = z := V.str.inj (of_decide_eq_true hc)
            rw [if_pos hc2] at hfl
            obtain ⟨us2, hu, d2⟩ := h.at_
            have hul : us2.length ≤ ds.length := by
              rw [d2.len, List.length_map]
              exact Nat.le_trans (List.length_filter_le _ _) (by rw [List.length_take]; omega)
            refine g_acc hu (by omega) ?_
            rw [hfl, List.map_append]
            exact h.app hD hu dx
          · have hc2 : ¬ d1.who = z := fun q => by rw [q] at hc; exact absurd hc (by simp)
            rw [if_neg hc2, List.append_nil] at hfl
            rw [hfl]
            exact h
      · rw [usl, List.take_length] at h
        obtain ⟨us2, hu, d2⟩ := h.at_
        have fr2 := h.fr
        have hr2 := fr2.get0 hr1
        wtm_at "go"
        refine g_dputS hr2 (by omega) ?_
        refine ⟨_, _, _, rfl, (fH.trans fr2.any).trans (Frm.mut List.mem_cons_self hr2 nt_dK), upd_same, by have := length_putK kr (Sum.inr z) (.ref Dr); omega, fun x hx => ?_⟩
        rw [wo_upd, valV_put]
        have hne : Dr ≠ rr := fun y => by rw [y, hr2] at hu; cases hu
        by_cases c : x = z
        · subst c
          exact ⟨Dr, us2, by rw [if_pos rfl], by rw [wo_ne hne]; exact hu, d2.wo hr2⟩
        · rw [take_snoc hz] at hx
          have hx' : x ∈ Es.take i := by
            rcases List.mem_append.mp hx with hx | hx
            · exact hx
            · exact absurd (List.mem_singleton.mp hx) c
          obtain ⟨l, vs, y1, y2, y3⟩ := hro x hx'
          exact ⟨l, vs, by rw [if_neg (fun y => c (Sum.inr.inj y))]; exact y1, (wo_mono fr2).get0 y2, y3.frm (wo_mono fr2)⟩
    · obtain ⟨x3, x4, kr, rfl, fH, hr1, hkl, hro⟩ := h
      rw [List.length_map, List.take_length] at hro
      wtm_at "go"
      refine q wr rr kw kr H' (fr9.cut fH (fun x hx => by rw [List.mem_singleton.mp hx]; exact D.nr)) (fH.at1 D.wr w9) k4 hr1 (fun x hx => ?_) hlen
      obtain ⟨l, vs, y1, y2, y3⟩ := hro x hx
      exact ⟨l, vs, y1, (wo_back y2).2, y3.frm wo_frm⟩
end

/-! equal data -/
mutual
def lnD : PyData → Nat
  | .tuple ds => max ds.length (lnA ds)
  | .list ds => max ds.length (lnA ds)
  | .none => 0
  | .bool _ => 0
  | .int _ => 0
  | .str _ => 0
  | .dict _ => 0
def lnA : List PyData → Nat
  | [] => 0
  | d :: r => max (lnD d) (lnA r)
end
theorem ln_mem : ∀ {ds : List PyData} {d : PyData}, d ∈ ds → lnD d ≤ lnA ds ∧ PyData.depth d ≤ PyData.depthAll ds
  | [], _, h => nomatch h
  | x :: r, d, h => by
    simp only [lnA, PyData.depthAll]
    rcases List.mem_cons.mp h with rfl | h
    · exact ⟨by omega, by omega⟩
    · have := ln_mem h
      exact ⟨by omega, by omega⟩
def SD (H : Hp) (v : V) (d : PyData) : Prop := D H v d ∨ ∃ l xs ds, v = .ref l ∧ d = .list ds ∧ H l = some (.lst xs) ∧ DL H xs ds
theorem SD.frm {H H' : Hp} {v : V} {d : PyData} (f : Frm [] H H') (h : SD H v d) : SD H' v d := by
  rcases h with h | ⟨l, xs, ds, h1, h2, h3, h4⟩
  · exact .inl (h.frm f)
  · exact .inr ⟨l, xs, ds, h1, h2, f.get0 h3, h4.frm f⟩
def Sq (H : Hp) (l : Addr) (xs : List V) : Prop := H l = some (.lst xs) ∨ H l = some (.tup xs)
theorem Sq.frm {H H' : Hp} {l : Addr} {xs : List V} (f : Frm [] H H') (h : Sq H l xs) : Sq H' l xs := h.imp (fun h => f.get0 h) (fun h => f.get0 h)
section
variable {K : PySem.W.Frag} {H : Hp} {Q : VK} {x v : V}
theorem g_lenS {p : Addr} {ys : List V} (h : Sq H p ys) (q : Q (.int ys.length) H) : rLen K [.ref p] H Q := h.elim (fun h => g_lenL h q) (fun h => g_lenT h q)
theorem g_ixS {p : Addr} {xs : List V} {j : Int} (h : Sq H p xs) (e : atI xs j = some v) (q : Q v H) : rIx K (.ref p) (.int j) H Q := h.elim (fun h => .inl (g_ixL h e q)) (fun h => .inr (.inl (g_ixT h e q)))
theorem g_isi {t n : String} {b : Bool} (ty : TyX K H x (.type t)) (k : kitB t n = some b) (q : Q (.bl b) H) : rIsi K [x, .ty n] H Q := ⟨x, .ty n, .type t, .type n, b, rfl, .ty n, ty, kit_ty k, q⟩
theorem g_isNf (h : decide (x = V.non) = false) (q : Q (.bl false) H) : rIsN x .non H Q := ⟨rfl, by rw [h]; exact q⟩
end
theorem kb_bool_bool : kitB "bool" "bool" = some true := by decide +kernel
theorem kb_bool_int : kitB "bool" "int" = some true := by decide +kernel
theorem kb_bool_str : kitB "bool" "str" = some false := by decide +kernel
theorem kb_bool_tuple : kitB "bool" "tuple" = some false := by decide +kernel
theorem kb_bool_list : kitB "bool" "list" = some false := by decide +kernel
theorem kb_int_bool : kitB "int" "bool" = some false := by decide +kernel
theorem kb_int_int : kitB "int" "int" = some true := by decide +kernel
theorem kb_int_str : kitB "int" "str" = some false := by decide +kernel
theorem kb_int_tuple : kitB "int" "tuple" = some false := by decide +kernel
theorem kb_int_list : kitB "int" "list" = some false := by decide +kernel
theorem kb_str_bool : kitB "str" "bool" = some false := by decide +kernel
theorem kb_str_int : kitB "str" "int" = some false := by decide +kernel
theorem kb_str_str : kitB "str" "str" = some true := by decide +kernel
theorem kb_str_tuple : kitB "str" "tuple" = some false := by decide +kernel
theorem kb_str_list : kitB "str" "list" = some false := by decide +kernel
theorem kb_tuple_bool : kitB "tuple" "bool" = some false := by decide +kernel
theorem kb_tuple_int : kitB "tuple" "int" = some false := by decide +kernel
theorem kb_tuple_str : kitB "tuple" "str" = some false := by decide +kernel
theorem kb_tuple_tuple : kitB "tuple" "tuple" = some true := by decide +kernel
theorem kb_tuple_list : kitB "tuple" "list" = some false := by decide +kernel
theorem kb_list_bool : kitB "list" "bool" = some false := by decide +kernel
theorem kb_list_int : kitB "list" "int" = some false := by decide +kernel
theorem kb_list_str : kitB "list" "str" = some false := by decide +kernel
theorem kb_list_tuple : kitB "list" "tuple" = some false := by decide +kernel
theorem kb_list_list : kitB "list" "list" = some true := by decide +kernel
section
variable {P : Program} {w : World} {K : PySem.W.Frag} {mg : Str → Option Value} {base : Heap}
abbrev sLawIsInteger : Stmt := top 46
theorem scLawIsInteger : FnScope ["_law_actual"] ["_law_actual"] (defScope sLawIsInteger) := ⟨rfl, rfl, rfl, by decide +kernel, rfl, by decide +kernel, by decide +kernel⟩
def pIsI (ac : V) (H : Hp) (Q : VK) (_ : XK) : Prop := ∃ i : Int, ac = .int i ∧ Q (.bl true) H
theorem ok_isI (T : Tx K mg) (A : At K mg "_law_is_integer" sLawIsInteger ["_law_actual"]) : Has P w K mg base CX0 "_law_is_integer" ["_law_actual"] 1 (sp1 pIsI) := by
  refine has_mk A scLawIsInteger (fun vs H Q E h => by obtain ⟨_, rfl, _⟩ := h; rfl) fun f cdv A outer s H vs Q E hr h => ?_
  obtain ⟨ac, rfl, i, rfl, q⟩ := h
  refine ⟨_, (pss_one (ps_ret (pe_and (pe_callB call_isi (by rfl) T.isinstance (by decide +kernel) (pa_cons (pv 0) (pa_cons (pe_bltn (v := .ty "int") (by rfl) T.int (by decide +kernel) rfl) pa_nil))) (pe_one (pe_not (pe_callB call_isi (by rfl) T.isinstance (by decide +kernel) (pa_cons (pv 0) (pa_cons (pe_bltn (v := .ty "bool") (by rfl) T.bool (by decide +kernel) rfl) pa_nil)))))))), ?_⟩
  wtm_at "kk"
  refine g_st (σ' := [some (.int i)]) rfl ?_
  wtm_at "go"
  refine g_isi (.base (.int i)) kb_int_int ?_
  wtm_at "go"
  refine g_isi (.base (.int i)) kb_int_bool ?_
  wtm_at "go"
  exact q
def pItems (n : Nat) (ac ex : V) (H : Hp) (Q : VK) (_ : XK) : Prop := ∃ (la le : Addr) (xs ys : List V) (ds : List PyData), ac = .ref la ∧ ex = .ref le ∧ Sq H la xs ∧ Sq H le ys ∧ DL H xs ds ∧ DL H ys ds ∧ PyData.depthAll ds < n ∧ ds.length ≤ 1000000 ∧ lnA ds ≤ 1000000 ∧ ∀ H2, Frm [] H H2 → Q (.bl true) H2
def pSame (n : Nat) (ac ex : V) (H : Hp) (Q : VK) (_ : XK) : Prop := ∃ d : PyData, SD H ac d ∧ SD H ex d ∧ PyData.depth d < n ∧ lnD d ≤ 1000000 ∧ ∀ H2, Frm [] H H2 → Q (.bl true) H2
abbrev sLawSameItems : Stmt := top 47
theorem scLawSameItems : FnScope ["_law_actual", "_law_expected", "_law_k"] ["_law_actual", "_law_expected"] (defScope sLawSameItems) := ⟨rfl, rfl, rfl, by decide +kernel, rfl, by decide +kernel, by decide +kernel⟩
theorem ok_items {n : Nat} (T : Tx K mg) (A : At K mg "_law_same_items" sLawSameItems ["_law_actual", "_law_expected"]) (C__law_same : Has P w K mg base CX0 "_law_same" ["_law_actual", "_law_expected"] (2 * n + 2) (sp2 (pSame n))) :
    Has P w K mg base CX0 "_law_same_items" ["_law_actual", "_law_expected"] (2 * n + 3) (sp2 (pItems n)) := by
  refine has_mk A scLawSameItems (fun vs H Q E h => by obtain ⟨_, _, rfl, _⟩ := h; rfl) fun f cdv A outer s H vs Q E hr h => ?_
  obtain ⟨ac, ex, rfl, la, le, xs, ys, ds, rfl, rfl, hla, hle, dx, dy, hd, hl, hn, q⟩ := h
  refine ⟨_, (pss_cons (ps_if (pt_cmpR op_ne (pe_callB k_len (by rfl) T.len PySem.boot_len (pa_cons (pv 0) pa_nil)) (pe_callB k_len (by rfl) T.len PySem.boot_len (pa_cons (pv 1) pa_nil)) (nomark _)) (pss_one (ps_ret pe_bl)) pss_nil) (pss_cons (ps_for PassesOwn.never rfl (pi_range1 (by rfl) T.range (pa_cons (pe_callB k_len (by rfl) T.len PySem.boot_len (pa_cons (pv 1) pa_nil)) pa_nil)) (pg_name (i := 2) scLawSameItems.nd rfl (Or.inl rfl)) (pss_one (ps_if (pt_not (pt_val (pe_h0 C__law_same (hr.mono (by omega)) (pa_cons (pe_ix ix_seq (pv 0) (pv 2) (fun _ _ => rfl)) (pa_cons (pe_ix ix_seq (pv 1) (pv 2) (fun _ _ => rfl)) pa_nil))))) (pss_one (ps_ret pe_bl)) pss_nil))) (pss_one (ps_ret pe_bl)))), ?_⟩
  wtm_at "kk"
  refine g_st (σ' := [some (.ref la), some (.ref le), none]) rfl ?_
  have hx := dx.len
  have hy := dy.len
  wtm_at "go"
  refine g_lenS hla ?_
  wtm_at "go"
  refine g_lenS hle ?_
  rw [hx, hy]
  wtm_at "go"
  rw [show (!decide (V.int ((ds.length : Nat) : Int) = V.int ((ds.length : Nat) : Int))) = false from by simp]
  wtm_at "go"
  refine g_lenS hle ?_
  rw [hy]
  refine g_kR hl ?_
  refine KForJ.mk (walk_range (lo := 0) (n := ds.length)) (fun i σ H' => ∃ x2, σ = [some (.ref la), some (.ref le), x2] ∧ Frm [] H H') ⟨none, rfl, Frm.refl _ _⟩ (fun _ _ _ _ _ => trivial) (fun i x σ H3 H2 hi h yy => ?_) (fun σ H' h => ?_)
  · obtain ⟨rfl, rfl⟩ := yy
    obtain ⟨x2, rfl, fH⟩ := h
    obtain ⟨v1, e1, d1⟩ := (dx.frm fH).get (List.getElem?_eq_getElem hi)
    obtain ⟨v2, e2, d2⟩ := (dy.frm fH).get (List.getElem?_eq_getElem hi)
    have hm := ln_mem (List.getElem_mem hi)
    dsimp only
    rw [Int.zero_add]
    wtm_at "go"
    refine g_ixS (hla.frm fH) (atI_nat e1) ?_
    wtm_at "go"
    refine g_ixS (hle.frm fH) (atI_nat e2) ?_
    wtm_at "go"
    refine to2 ⟨ds[i], .inl d1, .inl d2, by omega, by omega, fun H4 f4 => ?_⟩
    wtm_at "go"
    rw [if_neg (by decide)]
    wtm_at "go"
    exact ⟨_, rfl, fH.trans f4⟩
  · obtain ⟨x2, rfl, fH⟩ := h
    wtm_at "go"
    exact q H' fH
abbrev sLawSame : Stmt := top 48
theorem scLawSame : FnScope ["_law_actual", "_law_expected", "_law_key"] ["_law_actual", "_law_expected"] (defScope sLawSame) := ⟨rfl, rfl, rfl, by decide +kernel, rfl, by decide +kernel, by decide +kernel⟩
theorem ok_same {n : Nat} (T : Tx K mg) (A : At K mg "_law_same" sLawSame ["_law_actual", "_law_expected"]) (C__law_is_integer : Has P w K mg base CX0 "_law_is_integer" ["_law_actual"] 1 (sp1 pIsI))
    (C__law_same_items : Has P w K mg base CX0 "_law_same_items" ["_law_actual", "_law_expected"] (2 * n + 3) (sp2 (pItems n))) : Has P w K mg base CX0 "_law_same" ["_law_actual", "_law_expected"] (2 * n + 4) (sp2 (pSame (n + 1))) := by
  refine has_mk A scLawSame (fun vs H Q E h => by obtain ⟨_, _, rfl, _⟩ := h; rfl) fun f cdv A outer s H vs Q E hr h => ?_
  obtain ⟨ac, ex, rfl, d, dA, dE, hd, hl, q⟩ := h
  refine ⟨_, (pss_cons (ps_if (pt_cmpR k_isN (pv 1) pe_non (nomark _)) (pss_one (ps_ret (pe_cmpR k_isN (pv 0) pe_non (nomark _)))) pss_nil) (pss_cons (ps_if (pt_val (pe_callB call_isi (by rfl) T.isinstance (by decide +kernel) (pa_cons (pv 1) (pa_cons (pe_bltn (v := .ty "bool") (by rfl) T.bool (by decide +kernel) rfl) pa_nil)))) (pss_one (ps_ret (pe_and (pe_callB call_isi (by rfl) T.isinstance (by decide +kernel) (pa_cons (pv 0) (pa_cons (pe_bltn (v := .ty "bool") (by rfl) T.bool (by decide +kernel) rfl) pa_nil))) (pe_one (pe_cmpR op_eq (pv 0) (pv 1) (nomark _)))))) pss_nil) (pss_cons (ps_if (pt_val (pe_callB call_isi (by rfl) T.isinstance (by decide +kernel) (pa_cons (pv 1) (pa_cons (pe_bltn (v := .ty "int") (by rfl) T.int (by decide +kernel) rfl) pa_nil)))) (pss_one (ps_ret (pe_and (pe_h0 C__law_is_integer (hr.mono (by omega)) (pa_cons (pv 0) pa_nil)) (pe_one (pe_cmpR op_eq (pv 0) (pv 1) (nomark _)))))) pss_nil) (pss_cons (ps_if (pt_val (pe_callB call_isi (by rfl) T.isinstance (by decide +kernel) (pa_cons (pv 1) (pa_cons (pe_bltn (v := .ty "str") (by rfl) T.str (by decide +kernel) rfl) pa_nil)))) (pss_one (ps_ret (pe_and (pe_callB call_isi (by rfl) T.isinstance (by decide +kernel) (pa_cons (pv 0) (pa_cons (pe_bltn (v := .ty "str") (by rfl) T.str (by decide +kernel) rfl) pa_nil))) (pe_one (pe_cmpR op_eq (pv 0) (pv 1) (nomark _)))))) pss_nil) (pss_cons (ps_if (pt_val (pe_callB call_isi (by rfl) T.isinstance (by decide +kernel) (pa_cons (pv 1) (pa_cons (pe_bltn (v := .ty "tuple") (by rfl) T.tuple (by decide +kernel) rfl) pa_nil)))) (pss_one (ps_ret (pe_and (pe_callB call_isi (by rfl) T.isinstance (by decide +kernel) (pa_cons (pv 0) (pa_cons (pe_bltn (v := .ty "tuple") (by rfl) T.tuple (by decide +kernel) rfl) pa_nil))) (pe_one (pe_h0 C__law_same_items (hr.mono (by omega)) (pa_cons (pv 0) (pa_cons (pv 1) pa_nil))))))) pss_nil) (pss_cons (ps_if (pt_val (pe_callB call_isi (by rfl) T.isinstance (by decide +kernel) (pa_cons (pv 1) (pa_cons (pe_bltn (v := .ty "list") (by rfl) T.list (by decide +kernel) rfl) pa_nil)))) (pss_one (ps_ret (pe_and (pe_callB call_isi (by rfl) T.isinstance (by decide +kernel) (pa_cons (pv 0) (pa_cons (pe_bltn (v := .ty "list") (by rfl) T.list (by decide +kernel) rfl) pa_nil))) (pe_one (pe_h0 C__law_same_items (hr.mono (by omega)) (pa_cons (pv 0) (pa_cons (pv 1) pa_nil))))))) pss_nil) (pss_cons ps_no (pss_cons ps_no (pss_cons ps_no (pss_one (ps_ret pe_bl))))))))))), ?_⟩
  wtm_at "kk"
  refine g_st (σ' := [some (ac), some (ex), none]) rfl ?_
  rcases dE with dE | ⟨le, ys, ds, rfl, rfl, hle, dy⟩
  · rcases dA with dA | ⟨la, xs, ds, rfl, rfl, hla, dx⟩
    · cases dE with
      | non =>
        cases dA
        wtm_at "go"
        exact q H (Frm.refl _ _)
      | bl b =>
        cases dA
        wtm_at "go"
        refine g_isNf rfl ?_
        wtm_at "go"
        refine g_isi (.base (.bl b)) kb_bool_bool ?_
        wtm_at "go"
        refine g_isi (.base (.bl b)) kb_bool_bool ?_
        wtm_at "go"
        rw [decide_eq_true rfl]
        exact q H (Frm.refl _ _)
      | int i =>
        cases dA
        wtm_at "go"
        refine g_isNf rfl ?_
        wtm_at "go"
        refine g_isi (.base (.int i)) kb_int_bool ?_
        wtm_at "go"
        refine g_isi (.base (.int i)) kb_int_int ?_
        wtm_at "go"
        refine to1 ⟨i, rfl, ?_⟩
        wtm_at "go"
        rw [decide_eq_true rfl]
        exact q H (Frm.refl _ _)
      | str z =>
        cases dA
        wtm_at "go"
        refine g_isNf rfl ?_
        wtm_at "go"
        refine g_isi (.base (.str z)) kb_str_bool ?_
        wtm_at "go"
        refine g_isi (.base (.str z)) kb_str_int ?_
        wtm_at "go"
        refine g_isi (.base (.str z)) kb_str_str ?_
        wtm_at "go"
        refine g_isi (.base (.str z)) kb_str_str ?_
        wtm_at "go"
        rw [decide_eq_true rfl]
        exact q H (Frm.refl _ _)
      | tup hle dy =>
        obtain ⟨la, xs, rfl, hla, dx⟩ := dA.tupE
        simp only [PyData.depth] at hd
        simp only [lnD] at hl
        wtm_at "go"
        refine g_isi (.base (.tup hle)) kb_tuple_bool ?_
        wtm_at "go"
        refine g_isi (.base (.tup hle)) kb_tuple_int ?_
        wtm_at "go"
        refine g_isi (.base (.tup hle)) kb_tuple_str ?_
        wtm_at "go"
        refine g_isi (.base (.tup hle)) kb_tuple_tuple ?_
        wtm_at "go"
        refine g_isi (.base (.tup hla)) kb_tuple_tuple ?_
        wtm_at "go"
        exact to2 ⟨la, _, xs, _, _, rfl, rfl, .inr hla, .inr hle, dx, dy, by omega, by omega, by omega, q⟩
    · cases dE
  · rcases dA with dA | ⟨la, xs, ds', rfl, e, hla, dx⟩
    · cases dA
    · cases e
      simp only [PyData.depth] at hd
      simp only [lnD] at hl
      wtm_at "go"
      refine g_isi (.base (.lst hle)) kb_list_bool ?_
      wtm_at "go"
      refine g_isi (.base (.lst hle)) kb_list_int ?_
      wtm_at "go"
      refine g_isi (.base (.lst hle)) kb_list_str ?_
      wtm_at "go"
      refine g_isi (.base (.lst hle)) kb_list_tuple ?_
      wtm_at "go"
      refine g_isi (.base (.lst hle)) kb_list_list ?_
      wtm_at "go"
      refine g_isi (.base (.lst hla)) kb_list_list ?_
      wtm_at "go"
      exact to2 ⟨la, _, xs, _, _, rfl, rfl, .inl hla, .inl hle, dx, dy, by omega, by omega, by omega, q⟩
theorem ok_sm (T : Tx K mg) (A : At K mg "_law_same" sLawSame ["_law_actual", "_law_expected"]) (AI : At K mg "_law_same_items" sLawSameItems ["_law_actual", "_law_expected"]) (C__law_is_integer : Has P w K mg base CX0 "_law_is_integer" ["_law_actual"] 1 (sp1 pIsI)) :
    ∀ n, Has P w K mg base CX0 "_law_same" ["_law_actual", "_law_expected"] (2 * n + 2) (sp2 (pSame n))
  | 0 => has_no A fun vs H Q E h => by obtain ⟨_, _, _, _, _, _, h, _⟩ := h; exact absurd h (Nat.not_lt_zero _)
  | n + 1 => ok_same T A C__law_is_integer (ok_items T AI (ok_sm T A AI C__law_is_integer n))
end

/-! What the law compares. -/

theorem lnStrs : ∀ l : List Str, lnA (l.map PyData.str) = 0
  | [] => by simp [lnA]
  | c :: r => by simp [lnA, lnD, lnStrs r]
theorem lnV : ∀ v : Val, lnD (encV v) ≤ 3
  | .num n => by simp [encV, lnD, lnA]
  | .nam x => by simp [encV, lnD, lnA]
  | .op s l r => by
    have h1 := lnV l
    have h2 := lnV r
    simp only [encV, lnD, lnA, List.length_cons, List.length_nil]; omega
mutual
theorem lnS : ∀ s : Stm, (∀ t ∈ s.all, goodF t.flat) → lnD (encS s) ≤ 6 + s.sz
  | .msg f t l v x, _ => by
    have h1 := lnV v
    simp only [encS, lnD, lnA, List.length_cons, List.length_nil, Stm.sz]; omega
  | .set e x v, _ => by
    have h1 := lnV v
    simp only [encS, lnD, lnA, List.length_cons, List.length_nil, Stm.sz]; omega
  | .ask e x, _ => by simp [encS, lnD, lnA, Stm.sz]
  | .ite e v y n, h => by
    have h1 := lnV v
    have h2 := lnB y (fun t ht => h t (by simp [Stm.all, ht]))
    have h3 := lnB n (fun t ht => h t (by simp [Stm.all, ht]))
    have h4 := encB_len y
    have h5 := encB_len n
    have h6 := len_le_szB y
    have h7 := len_le_szB n
    simp only [encS, lnD, lnA, List.length_cons, List.length_nil, Stm.sz]; omega
  | .whl e v b, h => by
    have h1 := lnV v
    have h2 := lnB b (fun t ht => h t (by simp [Stm.all, ht]))
    have h4 := encB_len b
    have h6 := len_le_szB b
    simp only [encS, lnD, lnA, List.length_cons, List.length_nil, Stm.sz]; omega
  | .call p es, h => False.elim (show goodF (Stm.call p es).flat from h (.call p es) (by simp [Stm.all]))
theorem lnB : ∀ b : List Stm, (∀ t ∈ allB b, goodF t.flat) → lnA (encB b) ≤ 6 + szB b
  | [], _ => by simp [encB, lnA]
  | s :: r, h => by
    have h1 := lnS s (fun t ht => h t (by simp [allB, ht]))
    have h2 := lnB r (fun t ht => h t (by simp [allB, ht]))
    simp only [encB, lnA, szB]; omega
end
theorem lnT {Es : List Str} {B : List Stm} (h6 : Es.length ≤ 6) (g : goodB B) (hs : szB B ≤ 200000) : lnD (encT Es B) ≤ 1000000 := by
  have h1 := lnB B g
  have h2 := encB_len B
  have h3 := len_le_szB B
  simp only [encT, encBT, lnD, lnA, lnStrs, List.length_map, List.length_cons, List.length_nil]; omega
theorem depT {Es : List Str} {B : List Stm} (g : ∀ t ∈ allB B, lyF t.flat) (hd : dpB B ≤ 4) : PyData.depth (encT Es B) < 30 := by
  have h1 := depB B g
  have h2 := depthStrs Es
  simp only [encT, encBT, PyData.depth, PyData.depthAll]; omega
/-! deeds -/
theorem depBr (d : Deed) : PyData.depth (encBr d) ≤ 1 := by cases d <;> simp [encBr, encD, PyData.depth, PyData.depthAll]
theorem lnBr (d : Deed) : lnD (encBr d) ≤ 5 := by cases d <;> simp [encBr, encD, lnD, lnA]
theorem depBrs : ∀ ds : List Deed, PyData.depthAll (ds.map encBr) ≤ 1
  | [] => by simp [PyData.depthAll]
  | d :: r => by
    have h1 := depBr d
    have h2 := depBrs r
    simp only [List.map_cons, PyData.depthAll]; omega
theorem lnBrs : ∀ ds : List Deed, lnA (ds.map encBr) ≤ 5
  | [] => by simp [lnA]
  | d :: r => by
    have h1 := lnBr d
    have h2 := lnBrs r
    simp only [List.map_cons, lnA]; omega
theorem depL (ds : List Deed) : PyData.depth (.list (ds.map encBr)) < 30 := by
  have := depBrs ds
  simp only [PyData.depth]; omega
theorem lnL {ds : List Deed} (h : ds.length ≤ 900000) : lnD (.list (ds.map encBr)) ≤ 1000000 := by
  have := lnBrs ds
  simp only [lnD, List.length_map]; omega
theorem rows_eq {B B' : List Stm} (hx : Xch B B') (ins : Str → List Int) (e : Str) : ((runB B 0 (W0 ins)).deeds.filter fun d => decide (d.who = e)).map encBr = ((runB B' 0 (W0 ins)).deeds.filter fun d => decide (d.who = e)).map encBr :=
  map_bare (congrArg Vw.row (hx.rows 0 0 (W0 ins) (W0 ins) (fun _ => rfl) e))
/-! paths -/
theorem lay_path (p : List Nat) : PyData.canLay0 (encPath p) = true := by
  have key : ∀ l : List Nat, PyData.canLayAll0 (l.map encNat) = true := fun l => by
    induction l with
    | nil => simp [PyData.canLayAll0]
    | cons a r ih => simp only [List.map_cons, PyData.canLayAll0, encNat, PyData.canLay0, ih, Bool.and_self]
  simp only [encPath, PyData.canLay0, key]
theorem dep_path (p : List Nat) : PyData.depth (encPath p) ≤ 1 := by
  have key : ∀ l : List Nat, PyData.depthAll (l.map encNat) = 0 := fun l => by
    induction l with
    | nil => simp [PyData.depthAll]
    | cons a r ih => simp only [List.map_cons, PyData.depthAll, encNat, PyData.depth, ih]; omega
  simp only [encPath, PyData.depth, key]; omega
theorem sh_path (p : List Nat) : SeqAt.shaped (encPath p) = true := by
  have := dep_path p
  unfold SeqAt.shaped
  rw [lay_path, Bool.true_and, decide_eq_true_eq]; omega
theorem lay_paths : ∀ l : List (List Nat), PyData.canLayAll0 (l.map encPath) = true
  | [] => by simp [PyData.canLayAll0]
  | a :: r => by simp only [List.map_cons, PyData.canLayAll0, lay_path, lay_paths r, Bool.and_self]
theorem dep_paths : ∀ l : List (List Nat), PyData.depthAll (l.map encPath) ≤ 60
  | [] => by simp [PyData.depthAll]
  | a :: r => by
    have h1 := dep_path a
    have h2 := dep_paths r
    simp only [List.map_cons, PyData.depthAll]; omega
theorem sh_paths (l : List (List Nat)) : SeqAt.shaped (.list (l.map encPath)) = true := shList (lay_paths l) (dep_paths l)
theorem eqv_path (a b : List Nat) : PyData.eqv (encPath a) (encPath b) = decide (a = b) := by
  have key : ∀ a b : List Nat, PyData.eqvAll (a.map encNat) (b.map encNat) = decide (a = b) := fun a => by
    induction a with
    | nil => intro b; cases b <;> simp [PyData.eqvAll]
    | cons x r ih =>
      intro b
      cases b with
      | nil => simp [PyData.eqvAll]
      | cons y t =>
        rw [List.map_cons, List.map_cons, eqvA_cons, ih t]
        show (PyData.eqv (.int x) (.int y) && _) = _
        rw [eqv_int, natcast_eq]
        by_cases c : x = y <;> by_cases c2 : r = t <;> simp [c, c2]
  rw [encPath, encPath, eqvT, key]
theorem any_path (b : List Stm) (p : List Nat) : (((pathsB 0 b).map encPath).any fun z => PyData.eqv z (encPath p)) = isPath b p := by
  rw [List.any_map, Bool.eq_iff_iff, List.any_eq_true, ← mem_path0]
  constructor
  · rintro ⟨x, hx, h⟩
    have : x = p := of_decide_eq_true (by rw [← eqv_path]; exact h)
    exact this ▸ hx
  · intro h
    exact ⟨p, h, by show PyData.eqv (encPath p) (encPath p) = true; rw [eqv_path]; simp⟩
theorem last_at : ∀ {p : List Nat}, p ≠ [] → atI (p.map fun n => V.int (n : Nat)) (-1) = some (.int (lastK p : Nat)) := fun {p} h => by
  have key : ∀ p : List Nat, p ≠ [] → ∃ q, p = q ++ [lastK p] := fun p => by
    induction p with
    | nil => intro h; exact absurd rfl h
    | cons a r ih =>
      intro _
      cases r with
      | nil => exact ⟨[], rfl⟩
      | cons b t =>
        obtain ⟨q, hq⟩ := ih (by simp)
        refine ⟨a :: q, ?_⟩
        show a :: b :: t = a :: q ++ [lastK (b :: t)]
        rw [List.cons_append, ← hq]
  obtain ⟨q, hq⟩ := key p h
  have : (p.map fun n => V.int (n : Nat)) = (q.map fun n => V.int (n : Nat)) ++ [V.int (lastK p : Nat)] := by
    conv => lhs; rw [hq]
    rw [List.map_append]; rfl
  rw [this]
  exact atI_last _ _
theorem isEmpty_filter (l : List Str) (q : Str → Bool) : (l.filter q).isEmpty = l.all fun e => !q e := by
  induction l with
  | nil => rfl
  | cons a r ih =>
    rw [List.filter_cons, List.all_cons]
    cases h : q a with
    | true => rfl
    | false => simp only [Bool.not_false, Bool.true_and]; exact ih
theorem follow_at {b : List Stm} {k : Nat} {s t : Stm} (h1 : b[k]? = some s) (h2 : b[k + 1]? = some t) : follow b k = (s.ends.filter fun e => decide (e ∈ t.ends)).isEmpty := by
  rw [isEmpty_filter]
  unfold follow
  rw [h1, h2]
  rfl
/-! what an exchange keeps -/
theorem Xch.gB {Es : List Str} {B B' : List Stm} (h : Xch B B') (g : gB Es [] B) : gB Es [] B' := fun s hs => by
  obtain ⟨t, ht, e⟩ := List.mem_map.mp (h.flats s.flat (List.mem_map.mpr ⟨s, hs, rfl⟩))
  rw [← e]; exact g t ht
theorem gB.good {Es : List Str} {B : List Stm} (g : gB Es [] B) (ok : ∀ x ∈ Es, strOk x = true) : goodB B := fun s hs => (g s hs).good ok
theorem gB.lyB {Es : List Str} {B : List Stm} (g : gB Es [] B) (ok : ∀ x ∈ Es, strOk x = true) : ∀ t ∈ allB B, lyF t.flat := fun t ht => (g t ht).ly ok (fun q hq => nomatch hq)
theorem ends_ok {Es : List Str} {B : List Stm} (g : gB Es [] B) (ok : ∀ x ∈ Es, strOk x = true) {s : Stm} (h : s ∈ B) : ∀ e ∈ s.ends, strOk e = true := fun e he => by
  obtain ⟨t, ht, he⟩ := List.mem_flatMap.mp he
  have gt := g t (all_mem h t ht)
  cases t with
  | msg f t l v x =>
    simp only [Stm.ends1, List.mem_cons, List.not_mem_nil, or_false] at he
    rcases he with rfl | rfl
    · exact ok _ gt.1
    · exact ok _ gt.2.1
  | set a x v => rw [List.mem_singleton.mp he]; exact ok _ gt.1
  | ask a x => rw [List.mem_singleton.mp he]; exact ok _ gt.1
  | ite a v y n => rw [List.mem_singleton.mp he]; exact ok _ gt.1
  | whl a v b => rw [List.mem_singleton.mp he]; exact ok _ gt.1
  | call p es => obtain ⟨⟨q, hq, _⟩, _⟩ := gt; cases hq
theorem sh_strs {l : List Str} (h : ∀ c ∈ l, strOk c = true) : SeqAt.shaped (.list (l.map PyData.str)) = true := shList (lay_strs l h) (by have := depthStrs l; omega)
theorem gB.blockAt {Es : List Str} : ∀ (p : List Nat) {B : List Stm}, gB Es [] B → gB Es [] (blockAt B p) ∧ dpB (blockAt B p) ≤ dpB B ∧ szB (blockAt B p) ≤ szB B
  | [], B, g => ⟨by simpa [K34.blockAt] using g, by simp [K34.blockAt], by simp [K34.blockAt]⟩
  | [k], B, g => ⟨by simpa [K34.blockAt] using g, by simp [K34.blockAt], by simp [K34.blockAt]⟩
  | k :: j :: p, B, g => by
    have e : K34.blockAt B (k :: j :: p) = match inner B k j with
      | none => B
      | some c => K34.blockAt c p := rfl
    rw [e]
    cases hin : inner B k j with
    | none => exact ⟨g, Nat.le_refl _, Nat.le_refl _⟩
    | some c =>
      obtain ⟨s, h1, h2, h3⟩ := inner_mem hin
      have hm := List.mem_of_getElem? h1
      obtain ⟨i1, i2, i3⟩ := gB.blockAt p (g.inn hm h3)
      have a1 := dp_inn h3
      have a2 := dp_mem hm
      have a3 := sz_innM h3
      have a4 := sz_mem hm
      exact ⟨i1, Nat.le_trans i2 (by omega), Nat.le_trans i3 (by omega)⟩
/-! a score while the tape is read -/
theorem Scr.frmD {K : PySem.W.Frag} {C d : Addr} {H H' : Hp} {v e : V} {R : List Row} (h : Scr K C H v e R) (f : Frm [d] H H') (hd : ∃ kvs, H d = some (.dK kvs)) : Scr K C H' v e R := by
  obtain ⟨a, dx, bl, st, nx, xs, ys, h1, h2, h3, h4, h5, h6, h7, h8⟩ := h
  obtain ⟨kvs, hd⟩ := hd
  exact ⟨a, dx, bl, st, nx, xs, ys, h1, f.at1 (fun z => by rw [z, hd] at h2; cases h2) h2, h3, f.tupS h4, h5.frm f, f.tupS h6, h7.frm f, h8⟩

section
variable {X : Cx} {CX : CXT} {x : Str} {ps : List Str} {k : Nat} {sp : Sp} {p pos : Pos} {e : Expr} {es : List Expr} {t : TA} {C fS : Addr}
theorem pe_hasS {E : L2.St → XK} (h : Has X.prog X.w X.K X.mg X.base CX x ps k sp) (hr : Room k X.A) (hx : ∀ σ, PassesAt CX X σ (E σ)) (ha : PA X (e :: es) t) (hg : Gl X x := by rfl)
    (hdb : (x == ("__debug__" : Str)) = false := by decide) (he : starEach (e :: es) X.env = (false, eval e X.env) :: starEach es X.env := by rfl) (hpl : (backTo pos (starEach es X.env)).any (·.1) = false := by rfl) :
    PE X (.Call (.Name x p) (e :: es) [] pos) (tCallS sp E t) := by
  obtain ⟨f, fd, F, m, kp, b⟩ := h
  exact pe_callS F hr hg m kp b hx ha hdb he hpl
theorem pe_mk {E : XK} (M : Mk X.K C fS) (h : HasM X.prog X.w X.K X.mg X.base CX fS ps k sp) (hr : Room (k + 1) X.A) (hm : X.mg x = some (.ref C)) (hx : Passes CX X E) (ha : PA X (e :: es) t) (hg : Gl X x := by rfl)
    (hdb : (x == ("__debug__" : Str)) = false := by decide) (he : starEach (e :: es) X.env = (false, eval e X.env) :: starEach es X.env := by rfl) (hpl : (backTo pos (starEach es X.env)).any (·.1) = false := by rfl) :
    PE X (.Call (.Name x p) (e :: es) [] pos) (tMake C sp [] E t) := by
  obtain ⟨fd, F, b⟩ := h
  exact pe_make M F hr hg hm b .nil hx ha hdb he hpl
end
section
variable {K : PySem.W.Frag} {σ : L2.St} {H : Hp} {Q : VK} {sp : Sp} {E : XK} {tl : TA} {te : TE} {C a : Addr} {cls : Value} {d : Option Addr} {f : Str}
theorem g_make (q : tl σ H fun vs H1 => ∀ x dx, H1 x = none → H1 dx = none → dx ≠ x → sp (.ref x :: (vs ++ [])) (upd (upd H1 dx (.own x)) x (.ins C dx [])) (fun v H2 => v = .non ∧ Q (.ref x) H2) E) : tMake C sp [] E tl σ H Q := q
theorem g_callS {E : L2.St → XK} (q : tl σ H fun vs H1 => sp vs H1 Q (E σ)) : tCallS sp E tl σ H Q := q
theorem g_xf (q : te σ H fun x H1 => x = .ref a ∧ cls = .ref C ∧ ∃ (dd : Addr) (fs : List (Str × V)) (v : V), d = some dd ∧ H1 dd = some (.xd fs) ∧ fs.lookup f = some v ∧ Q v H1) : tXf a cls d C f te σ H Q := q
theorem g_inD {x : V} {dx : PyData} {ds : List PyData} {l : Addr} {xs : List V} (hx : K34.D H x dx) (hl : H l = some (.lst xs)) (dl : DL H xs ds) (s1 : SeqAt.shaped dx = true) (s2 : SeqAt.shaped (.list ds) = true) (q : Q (.bl (ds.any fun z => PyData.eqv z dx)) H) : rInD K x (.ref l) H Q :=
  ⟨dx, ds, hx.dp, .lst (SqL.of hl) dl.dp, s1, s2, q⟩
end
/-- what the law has in hand -/
structure LS (K : PySem.W.Frag) (C : Addr) (H : Hp) (d c ta e pp b x e' l : Addr) (Es : List Str) (B : List Stm) (vs : List V) : Prop where
  T : Tape H d c
  at_ : H ta = some (.tup [.ref e, .ref pp, .ref b])
  he : H e = some (.tup (Es.map V.str))
  dB : D H (.ref b) (encBT B)
  dT : D H (.ref ta) (encT Es B)
  sc : Scr K C H (.ref x) (.ref e') (rowB 0 (szB B) B)
  he' : H e' = some (.tup (Es.map V.str))
  hl : H l = some (.lst vs)
  dl : DL H vs ((pathsB 0 B).map encPath)
theorem LS.frm {K : PySem.W.Frag} {C : Addr} {H H' : Hp} {d c ta e pp b x e' l : Addr} {Es : List Str} {B : List Stm} {vs : List V} (f : Frm [] H H') (h : LS K C H d c ta e pp b x e' l Es B vs) : LS K C H' d c ta e pp b x e' l Es B vs :=
  ⟨h.T.frm f, f.get0 h.at_, f.get0 h.he, h.dB.frm f, h.dT.frm f, h.sc.frm f, f.get0 h.he', f.get0 h.hl, h.dl.frm f⟩
theorem LS.frmD {K : PySem.W.Frag} {C : Addr} {H H' : Hp} {d c ta e pp b x e' l : Addr} {Es : List Str} {B : List Stm} {vs : List V} (f : Frm [d] H H') (T : Tape H' d c) (h : LS K C H d c ta e pp b x e' l Es B vs) : LS K C H' d c ta e pp b x e' l Es B vs :=
  ⟨T, f.tupS h.at_, f.tupS h.he, h.dB.frm f, h.dT.frm f, h.sc.frmD f h.T.dK, f.tupS h.he', f.at1 (fun z => by obtain ⟨kvs, hd⟩ := h.T.dK; have := h.hl; rw [z, hd] at this; cases this) h.hl, h.dl.frm f⟩
section
variable {P : Program} {w : World} {K : PySem.W.Frag} {mg : Str → Option Value} {base : Heap} {CI fI C fS : Addr}
abbrev sLaw : Stmt := top 71
theorem scLaw : FnScope ["_law_script", "_law_tape_here", "_law_tree_here", "_law_score", "_law_listed", "_law_path", "_law_right", "_law_block_here", "_law_k", "_law_end", "_law_found", "e", "_law_inputs_here", "_law_first", "_law_second"] ["_law_script"] (defScope sLaw) := ⟨rfl, rfl, rfl, by decide +kernel, rfl, by decide +kernel, by decide +kernel⟩
def pLaw (K : PySem.W.Frag) (sc : V) (H : Hp) (Q : VK) (_ : XK) : Prop := ∃ (a : Addr) (ns : List Int), sc = .ref a ∧ SqL K H a (ns.map V.int) ∧ ns.length ≤ 63 ∧ ∀ H', Q (.bl true) H'
theorem ok_law (Ex : ExC K mg CI fI) (XF : XfC K CI) (te : PySem.W.exmOne K (.ref CI) (.ref CI) = some true) (MK : Mk K C fS) (SG : mg "Score" = some (.ref C)) (T : Tx K mg) {f : Addr} {fd : FuncData} (F : Fun K "law" "law" sLaw f fd)
    (C__law_tape : Has P w K mg base CX0 "_law_tape" ["_law_script"] 1 (sp1 (pTape K))) (C__law_clear_tree : Has P w K mg base CX0 "_law_clear_tree" ["_law_tape_here", "_law_depth", "_law_most"] 33 (sp3 pClr))
    (C_score : HasM P w K mg base (L2.CX P w) fS ["self", "tree"] 20 (sp2 (pScore K C CI))) (C__law_paths : Has P w K mg base CX0 "_law_paths" ["_law_block_here"] 9 (sp1 (pPaths 8)))
    (C__law_take : Has P w K mg base CX0 "_law_take" ["_law_tape_here", "_law_many"] 1 (sp2 pTake)) (C__law_block_at : Has P w K mg base CX0 "_law_block_at" ["_law_block_here", "_law_path"] 1 (sp2 pBat))
    (C__law_ends : Has P w K mg base CX0 "_law_ends" ["_law_one"] 10 (sp1 pLEnds)) (C__law_same : Has P w K mg base CX0 "_law_same" ["_law_actual", "_law_expected"] 62 (sp2 (pSame 30)))
    (C_may_exchange : Has P w K mg base CX0 "may_exchange" ["tree", "path"] 13 (sp2 pMayX)) (C_exchanged : Has P w K mg base (L2.CX P w) "exchanged" ["tree", "path"] 22 (sp2 (pExch CI)))
    (C__law_with : Has P w K mg base CX0 "_law_with" ["_law_block_here", "_law_path"] 21 (sp2 (pExI 20))) (C__law_inputs : Has P w K mg base CX0 "_law_inputs" ["_law_tape_here", "_law_ends_here"] 3 (sp2 pInp))
    (C__law_run : Has P w K mg base CX0 "_law_run" ["_law_tree_here", "_law_inputs_here"] 33 (sp2 pRun)) (C__law_bare : Has P w K mg base CX0 "_law_bare" ["_law_row"] 1 (sp1 pBare))
    (C_witness : Has P w K mg base CX0 "witness" ["score"] 5 (sp1 (pWit K C))) : FnOk P w K mg base CX0 63 f fd ["_law_script"] (sp1 (pLaw K)) := by
  refine F.ok scLaw (fun vs H Q E h => by obtain ⟨_, rfl, _⟩ := h; rfl) (fun cdv A outer s H vs Q E hr h => ?_)
  obtain ⟨sc, rfl, a, ns, rfl, hS, hns, q⟩ := h
  refine ⟨_, (pss_cons (ps_set (i := 1) scLaw.nd rfl (Or.inl rfl) (pe_h0 C__law_tape (hr.mono (by omega)) (pa_cons (pv 0) pa_nil))) (pss_cons (ps_set (i := 2) scLaw.nd rfl (Or.inl rfl) (pe_h0 C__law_clear_tree (hr.mono (by omega)) (pa_cons (pv 1) (pa_cons pe_int (pa_cons pe_int pa_nil))))) (pss_cons (ps_try_only (c := .ref CI) rfl rfl ⟨rfl, by decide, .inl Ex.g⟩ takes0 (fun W pn xe tk _ => (pss_one (ps_set (i := 3) scLaw.nd rfl (Or.inl rfl) (pe_mk MK C_score (hr.mono (by omega)) SG (E := fun cls d H => ∀ σ, W cls d σ H) (passes_call tk fun cls d σ H h => h σ) (pa_cons (pv 2) pa_nil))))) (fun a oe cls d pn hz hf => (pss_one (ps_ret pe_bl)))) (pss_cons (ps_set (i := 4) scLaw.nd rfl (Or.inl rfl) (pe_h0 C__law_paths (hr.mono (by omega)) (pa_cons (pe_ix ix_tup (pv 2) pe_int (fun _ _ => rfl)) pa_nil))) (pss_cons (ps_set (i := 5) scLaw.nd rfl (Or.inl rfl) (pe_ix ix_list (pe_lst (pa_cons (pe_tup (pa_cons pe_int (pa_cons pe_int pa_nil))) (pa_cons (pe_tup (pa_cons pe_int pa_nil)) (pa_cons (pe_tup pa_nil) (pa_cons (pe_tup (pa_cons pe_int (pa_cons pe_int (pa_cons pe_int pa_nil)))) (pa_cons (pe_tup (pa_cons pe_int (pa_cons pe_int (pa_cons pe_int pa_nil)))) pa_nil)))))) (pe_h0 C__law_take (hr.mono (by omega)) (pa_cons (pv 1) (pa_cons pe_int pa_nil))) (fun _ _ => rfl))) (pss_cons (ps_if (PW.pt (pw_and (pt_cmpR (op_neD hr.units) (pv 4) (pe_lst pa_nil) (nomark _)) (pw_and1 (pt_cmpR k_gt (pe_h0 C__law_take (hr.mono (by omega)) (pa_cons (pv 1) (pa_cons pe_int pa_nil))) pe_int (nomark _))))) (pss_one (ps_set (i := 5) scLaw.nd rfl (Or.inl rfl) (pe_ix ix_list (pv 4) (pe_h0 C__law_take (hr.mono (by omega)) (pa_cons (pv 1) (pa_cons (pe_callB k_len (by rfl) T.len PySem.boot_len (pa_cons (pv 4) pa_nil)) pa_nil))) (fun _ _ => rfl)))) pss_nil) (pss_cons (ps_set (i := 6) scLaw.nd rfl (Or.inl rfl) pe_bl) (pss_cons (ps_if (pt_cmpR (op_inD (hu65 hr)) (pv 5) (pv 4) (by rfl)) (pss_cons (ps_set (i := 7) scLaw.nd rfl (Or.inr rfl) (pe_h0 C__law_block_at (hr.mono (by omega)) (pa_cons (pe_ix ix_tup (pv 2) pe_int (fun _ _ => rfl)) (pa_cons (pv 5) pa_nil)))) (pss_cons (ps_set (i := 8) scLaw.nd rfl (Or.inr rfl) (pe_ix ix_tup (pv 5) (pe_un un_neg pe_int) (fun _ _ => rfl))) (pss_one (ps_if (pt_cmpR k_lt (pe_op k_add (pv 8) pe_int) (pe_callB k_len (by rfl) T.len PySem.boot_len (pa_cons (pv 7) pa_nil)) (nomark _)) (pss_one (ps_set (i := 6) scLaw.nd rfl (Or.inl rfl) (pe_cmpR (op_eqD hr.units) (pe_lc (own := [("_law_end", 9)]) rfl scLaw.nd (pi_list (pe_h0 C__law_ends (hr.mono (by omega)) (pa_cons (pe_ix ix_tup (pv 7) (pv 8) (fun _ _ => rfl)) pa_nil))) (blkOk_by (own := [("_law_end", 9)]) (N := ["_law_script", "_law_tape_here", "_law_tree_here", "_law_score", "_law_listed", "_law_path", "_law_right", "_law_block_here", "_law_k", "_law_end", "_law_found", "e", "_law_inputs_here", "_law_first", "_law_second"]) (sc := defScope sLaw) (by decide +kernel)) (fun _ _ _ _ _ => (pg_name (i := 9) scLaw.nd rfl (Or.inl rfl))) (fun _ _ _ _ _ => (pts_one (pt_cmpR (b_in K) (pv 9) (pe_h0 C__law_ends (hr.mono (by omega)) (pa_cons (pe_ix (b_ixT K) (pv 7) (pe_op k_add (pv 8) pe_int) (fun _ _ => rfl)) pa_nil)) (by rfl)))) (fun _ _ _ _ _ => (pv 9))) (pe_lst pa_nil) (nomark _)))) pss_nil)))) pss_nil) (pss_cons (ps_if (pt_not (pt_val (pe_h0 C__law_same (hr.mono (by omega)) (pa_cons (pe_h0 C_may_exchange (hr.mono (by omega)) (pa_cons (pv 2) (pa_cons (pv 5) pa_nil))) (pa_cons (pv 6) pa_nil))))) (pss_one (ps_ret pe_bl)) pss_nil) (pss_cons (ps_try_as (c := .ref CI) (i := 11) rfl rfl scLaw.nd rfl rfl ⟨rfl, by decide, .inl Ex.g⟩ takes0 (fun W pn xe tk _ => (pss_one (ps_set (i := 10) scLaw.nd rfl (Or.inl rfl) (pe_hasS C_exchanged (hr.mono (by omega)) (E := WE W) (fun σ => passAt tk σ) (pa_cons (pv 2) (pa_cons (pv 5) pa_nil)))))) (fun a oe cls d pn hz hf => (pss_one (ps_ret (pe_and (pe_not (pv 6)) (pe_one (pe_cmpR op_eq (pe_xf XF Ex.no hz hf (pv 11)) pe_str (nomark _)))))))) (pss_cons (ps_if (PW.pt (pw_or (pt_not (pt_val (pv 6))) (pw_or1 (pt_not (pt_val (pe_h0 C__law_same (hr.mono (by omega)) (pa_cons (pv 10) (pa_cons (pe_tup (pa_cons (pe_ix ix_tup (pv 2) pe_int (fun _ _ => rfl)) (pa_cons (pe_tup pa_nil) (pa_cons (pe_h0 C__law_with (hr.mono (by omega)) (pa_cons (pe_ix ix_tup (pv 2) pe_int (fun _ _ => rfl)) (pa_cons (pv 5) pa_nil))) pa_nil)))) pa_nil)))))))) (pss_one (ps_ret pe_bl)) pss_nil) (pss_cons (ps_set (i := 12) scLaw.nd rfl (Or.inl rfl) (pe_h0 C__law_inputs (hr.mono (by omega)) (pa_cons (pv 1) (pa_cons (pe_ix ix_tup (pv 2) pe_int (fun _ _ => rfl)) pa_nil)))) (pss_cons (ps_set (i := 13) scLaw.nd rfl (Or.inl rfl) (pe_dget (hu_of hr) (pe_h0 C__law_run (hr.mono (by omega)) (pa_cons (pv 2) (pa_cons (pv 12) pa_nil))) pe_str (fun _ _ => rfl))) (pss_cons (ps_set (i := 14) scLaw.nd rfl (Or.inl rfl) (pe_dget (hu_of hr) (pe_h0 C__law_run (hr.mono (by omega)) (pa_cons (pv 10) (pa_cons (pv 12) pa_nil))) pe_str (fun _ _ => rfl))) (pss_cons (ps_for PassesOwn.never rfl (pi_tup (pe_ix ix_tup (pv 2) pe_int (fun _ _ => rfl))) (pg_name (i := 9) scLaw.nd rfl (Or.inl rfl)) (pss_one (ps_if (pt_not (pt_val (pe_h0 C__law_same (hr.mono (by omega)) (pa_cons (pe_h0 C__law_bare (hr.mono (by omega)) (pa_cons (pe_dget (hu_of hr) (pv 13) (pv 9) (fun _ _ => rfl)) pa_nil)) (pa_cons (pe_h0 C__law_bare (hr.mono (by omega)) (pa_cons (pe_dget (hu_of hr) (pv 14) (pv 9) (fun _ _ => rfl)) pa_nil)) pa_nil))))) (pss_one (ps_ret pe_bl)) pss_nil))) (pss_one (ps_ret (pe_cmpR op_eq (pe_cmpR k_isN (pe_h0 C_witness (hr.mono (by omega)) (pa_cons (pv 3) pa_nil)) pe_non (nomark _)) (pe_cmpR k_isN (pe_h0 C_witness (hr.mono (by omega)) (pa_cons (pe_mk MK C_score (hr.mono (by omega)) SG (E := E0) passL (pa_cons (pv 10) pa_nil)) pa_nil)) pe_non (nomark _)) (nomark _))))))))))))))))))), ?_⟩
  wtm_at "kk"
  refine g_st (σ' := [some (.ref a), none, none, none, none, none, none, none, none, none, none, none, none, none, none]) rfl ?_
  wtm_at "go"
  refine to1 ⟨a, ns, rfl, hS, by omega, fun d c H1 f1 hT1 => ?_⟩
  wtm_at "go"
  refine to3 ⟨d, c, rfl, rfl, rfl, hT1, fun v H2 Es B f2 hT2 dT EO hg hgd hdp hsz => ?_⟩
  obtain ⟨ta, e, pp, b, rfl, hat, he, hpp, dB⟩ := dT.tree
  wtm_at "go"
  refine g_make ?_
  wtm_at "go"
  refine fun x dx nx ndx nex => ?_
  have fx : Frm [] H2 (upd (upd H2 dx (.own x)) x (.ins C dx [])) := (Frm.new ndx).trans (Frm.new (by rw [upd_ne (Ne.symm nex)]; exact nx))
  refine to2 ⟨x, dx, Es, B, rfl, upd_same, dT.frm fx, EO.nd, EO.l6, hgd, by omega, by omega, fun ok H4 e4 f4 hsc he4 => ⟨rfl, ?_⟩, fun ok d' H4 σ' => ⟨true, te, fun _ a' ha' => ?_, fun z => nomatch z⟩⟩
  rotate_left
  · wtm_at "go"
    exact q _
  have f24 : Frm [] H2 H4 := fx.cut f4 (fun y hy => by rw [List.mem_singleton.mp hy]; exact nx)
  have hat4 := f24.get0 hat
  wtm_at "go"
  refine to1 ⟨B, dB.frm f24, by omega, by omega, by omega, fun l H5 vs n5 f5 h5 d5 => ?_⟩
  have L5 : LS K C H5 d c ta e pp b x e4 l Es B vs := ⟨(hT2.frm f24).frm f5, f5.get0 hat4, f5.get0 (f24.get0 he), (dB.frm f24).frm f5, (dT.frm f24).frm f5, hsc.frm f5, f5.get0 he4, h5, d5⟩
  have hvl : vs.length = szB B := by rw [d5.len, List.length_map, pathsB_len]
  clear f24 fx f4 f5 h5 d5 hat4 hsc he4 hat he hpp dB dT hT2
  wtm_at "go"
  rename_i p1 H6 n6 f6 h6 p2 H7 n7 f7 h7 p3 H8 n8 f8 h8 p4 H9 n9 f9 h9 p5 H10 n10 f10 h10 lq H11 n11 f11 h11
  have f6b := (((f7.trans f8).trans f9).trans f10).trans f11
  have f7b := ((f8.trans f9).trans f10).trans f11
  have f8b := (f9.trans f10).trans f11
  have L11 := L5.frm (f6.trans f6b)
  refine to2 ⟨d, c, 5, rfl, rfl, by decide, by decide, L11.T, fun r H12 hr12 f12 hT12 => ?_⟩
  have L12 := L11.frmD f12 hT12
  have hlq : H12 lq = some (.lst [.ref p1, .ref p2, .ref p3, .ref p4, .ref p5]) := f12.at1 ((L5.T.frm (((((f6.trans f7).trans f8).trans f9).trans f10))).ne n11).1 h11
  obtain ⟨vp, p0, ep, dp0⟩ : ∃ vp p0, ([V.ref p1, .ref p2, .ref p3, .ref p4, .ref p5] : List V)[r]? = some vp ∧ D H12 vp (encPath p0) := by
    have hc : r = 0 ∨ r = 1 ∨ r = 2 ∨ r = 3 ∨ r = 4 := by omega
    rcases hc with rfl | rfl | rfl | rfl | rfl
    · exact ⟨_, [0, 0], rfl, D.ofPath (f12.tupS (f6b.get0 h6))⟩
    · exact ⟨_, [9], rfl, D.ofPath (f12.tupS (f7b.get0 h7))⟩
    · exact ⟨_, [], rfl, D.ofPath (f12.tupS (f8b.get0 h8))⟩
    · exact ⟨_, [0, 1, 0], rfl, D.ofPath (f12.tupS ((f10.trans f11).get0 h9))⟩
    · exact ⟨_, [0, 2, 0], rfl, D.ofPath (f12.tupS (f11.get0 h10))⟩
  refine g_ixL hlq (atI_nat ep) ?_
  clear hlq L11 L5 f6 f7 f8 f9 f10 f11 f12 f6b f7b f8b h6 h7 h8 h9 h10 h11 ep n6 n7 n8 n9 n10 n11 hT12 n5
  wtm_at "gx"
  with_reducible refine g_seqM (fun σ H' => ∃ vq p, σ = [some (.ref a), some (.ref d), some (.ref ta), some (.ref x), some (.ref l), some vq, none, none, none, none, none, none, none, none, none] ∧ LS K C H' d c ta e pp b x e4 l Es B vs ∧ D H' vq (encPath p)) (fun σ1 H13 hM => ?_) (fun N hN => ?_)
  rotate_left
  · wtm_at "go"
    rename_i p14 H14 n14 f14 h14
    have L14 := L12.frm f14
    refine g_neNil L14.hl h14 L14.dl (sh_paths _) ?_
    have hl14 := L14.hl
    cases hpe : pathsB 0 B with
    | nil =>
      rw [show (!(List.map encPath []).isEmpty) = false from rfl]
      wtm_at "go"
      exact hN _ _ ⟨_, p0, rfl, L14, dp0.frm f14⟩
    | cons z1 z2 =>
      rw [show (!(List.map encPath (z1 :: z2)).isEmpty) = true from rfl]
      wtm_at "go"
      refine to2 ⟨d, c, 5, rfl, rfl, by decide, by decide, L14.T, fun r2 H15 hr2 f15 hT15 => ?_⟩
      have L15 := L14.frmD f15 hT15
      have hl15 := L15.hl
      clear hl14
      wtm_at "go"
      refine g_ite (fun hc => ?_) (fun hc => ?_)
      · wtm_at "go"
        have hvp : 0 < vs.length := by rw [hvl, ← pathsB_len B 0, hpe]; exact Nat.succ_pos _
        refine to2 ⟨d, c, vs.length, rfl, rfl, hvp, by omega, L15.T, fun r3 H16 hr3 f16 hT16 => ?_⟩
        have L16 := L15.frmD f16 hT16
        obtain ⟨dd, hdd, dx3⟩ := L16.dl.getV (List.getElem?_eq_getElem hr3)
        rw [List.getElem?_map] at hdd
        cases hq3 : (pathsB 0 B)[r3]? with
        | none => rw [hq3] at hdd; cases hdd
        | some p3 =>
          rw [hq3] at hdd
          obtain rfl := Option.some.inj hdd
          refine g_ixL L16.hl (atI_nat (List.getElem?_eq_getElem hr3)) ?_
          wtm_at "gx"
          exact hN _ _ ⟨_, p3, rfl, L16, dx3⟩
      · wtm_at "go"
        exact hN _ _ ⟨_, p0, rfl, L15, (dp0.frm f14).frm f15⟩
  clear L12 dp0 f2 f1 hT1
  obtain ⟨vq, p, rfl, L13, dq⟩ := hM
  obtain ⟨aq, rfl, haq⟩ := dq.path
  with_reducible refine g_seq ?_
  wtm_at "gx"
  with_reducible refine g_seqM (fun σ H' => ∃ x7 x8, σ = [some (.ref a), some (.ref d), some (.ref ta), some (.ref x), some (.ref l), some (.ref aq), some (.bl (mayEx B p)), x7, x8, none, none, none, none, none, none] ∧ Frm [] H13 H') (fun σ1 H14 hM => ?_) (fun N hN => ?_)
  rotate_left
  · wtm_at "go"
    refine g_inD dq L13.hl L13.dl (sh_path _) (sh_paths _) ?_
    rw [any_path]
    wtm_at "go"
    refine g_ite (fun hi => ?_) (fun hi => ?_)
    · have hat13 := L13.at_
      wtm_at "go"
      refine to2 ⟨B, p, L13.dB, dq, hi, fun vb H14 f14 db => ?_⟩
      obtain ⟨bb, xb, rfl, hbb, dxb⟩ := db.tupE
      have hxb := dxb.encLen
      have haq14 := f14.get0 haq
      wtm_at "go"
      refine g_un ?_
      wtm_at "go"
      refine g_neg ?_
      refine g_ixT haq14 (last_at (isPath_ne hi)) ?_
      wtm_at "go"
      refine g_ite (fun hk => ?_) (fun hk => ?_)
      · have hk : lastK p + 1 < xb.length := by
          have := of_decide_eq_true hk
          omega
        obtain ⟨gB2, dB2, sB2⟩ := hg.blockAt p
        have hk1 : lastK p < xb.length := by omega
        obtain ⟨s1, es1, ds1⟩ := dxb.stm (List.getElem?_eq_getElem hk1)
        obtain ⟨s2, es2, ds2⟩ := dxb.stm (List.getElem?_eq_getElem hk)
        have m1 := List.mem_of_getElem? es1
        have m2 := List.mem_of_getElem? es2
        have ok1 := ends_ok gB2 EO.ok m1
        have ok2 := ends_ok gB2 EO.ok m2
        have hgB2 := gB2.good EO.ok
        wtm_at "go"
        refine g_ixT hbb (atI_nat (List.getElem?_eq_getElem hk1)) ?_
        wtm_at "go"
        refine to1 ⟨s1, ds1, hgB2.one m1, Nat.lt_of_le_of_lt (dp_one m1) (by omega), Nat.le_trans (sz_one m1) (by omega), fun le H15 n15 f15 h15 => ?_⟩
        wtm_at "go"
        have hlen : s1.ends.length ≤ 900000 := by
          have h1 : s1.ends.length ≤ 2 * s1.sz := by
            have hall : ∀ l : List Stm, (l.flatMap Stm.ends1).length ≤ 2 * l.length := fun l => by
              induction l with
              | nil => simp
              | cons u r ih =>
                have := ends1_le u
                rw [List.flatMap_cons, List.length_append, List.length_cons]; omega
            have := hall s1.all
            rw [all_len] at this
            exact this
          have h2 := sz_mem m1
          omega
        refine KLc.mk (walk_list (xs := s1.ends.map V.str)) fun Dr hD => ⟨fun j H' => LI [] H15 Dr (((s1.ends.take j).filter fun e => decide (e ∈ s2.ends)).map PyData.str) H', .new (Frm.new hD) upd_same, fun j H' _ h => SqL.of (h.fr.get0 h15), fun j y H17 H16 hj h yy => ?_, fun H16 h => ?_⟩
        · obtain ⟨rfl, hy⟩ := yy
          obtain ⟨z, hz, rfl⟩ := getMapStr hy
          have fr := h.fr
          have fr2 := f15.trans fr
          have hbb16 := fr2.get0 hbb
          have ds16 := ds2.frm fr2
          wtm_at "wi"
          wtm_at "go"
          refine g_ixT hbb16 (j := ((lastK p : Nat) : Int) + 1) (atI_nat (j := lastK p + 1) (List.getElem?_eq_getElem hk)) ?_
          wtm_at "go"
          refine to1 ⟨s2, ds16, hgB2.one m2, Nat.lt_of_le_of_lt (dp_one m2) (by omega), Nat.le_trans (sz_one m2) (by omega), fun l2 H18 n18 f18 h18 => ?_⟩
          have h := h.frm f18
          wtm_at "go"
          refine g_inL h18 rfl (flatStrs _) ?_
          rw [inV_str]
          wtm_at "go"
          have hfl : ((s1.ends.take (j + 1)).filter fun e => decide (e ∈ s2.ends)) = ((s1.ends.take j).filter fun e => decide (e ∈ s2.ends)) ++ if z ∈ s2.ends then [z] else [] := by
            rw [take_snoc hz, List.filter_append]
            by_cases c : z ∈ s2.ends <;> simp [c]
          refine g_tst (fun hc => ?_) (fun hc => ?_)
          · wtm_at "go"
            rw [if_pos (of_decide_eq_true hc)] at hfl
            obtain ⟨us2, hu, d2⟩ := h.at_
            have hul : us2.length ≤ s1.ends.length := by
              rw [d2.len, List.length_map]
              exact Nat.le_trans (List.length_filter_le _ _) (by rw [List.length_take]; omega)
            refine g_acc hu (by omega) ?_
            rw [hfl, List.map_append]
            exact h.app hD hu (.str z)
          · rw [if_neg (of_decide_eq_false hc), List.append_nil] at hfl
            rw [hfl]
            exact h
        · rw [List.length_map, List.take_length] at h
          obtain ⟨us2, hu, d2⟩ := h.at_
          have fr := h.fr
          wtm_at "go"
          rename_i p17 H17 n17 f17 h17
          refine g_eqNil (f17.get0 hu) h17 (d2.frm f17) (sh_strs fun c hc => ok1 c (List.mem_filter.mp hc).1) ?_
          rw [show (List.map PyData.str (s1.ends.filter fun e => decide (e ∈ s2.ends))).isEmpty = mayEx B p from by rw [may_at p B hi, follow_at es1 es2, List.isEmpty_map]]
          wtm_at "go"
          exact hN _ _ ⟨_, _, rfl, ((f14.trans f15).trans fr).trans f17⟩
      · have hk : ¬ lastK p + 1 < xb.length := fun z => by
          have := of_decide_eq_false hk
          omega
        have hm : mayEx B p = false := by rw [may_at p B hi]; exact follow_out (by omega)
        wtm_at "go"
        refine hN _ _ ⟨some (.ref bb), some (.int (lastK p : Nat)), ?_, f14⟩
        rw [hm]
    · wtm_at "go"
      refine hN _ _ ⟨none, none, ?_, Frm.refl _ _⟩
      rw [may_out p B hi]
  obtain ⟨x7, x8, rfl, f14⟩ := hM
  have L14 := L13.frm f14
  have dq14 := dq.frm f14
  clear L13 dq haq f14
  wtm_at "go"
  refine to2 ⟨Es, B, p, L14.dT, dq14, hgd, by omega, by omega, fun H15 f15 => ?_⟩
  wtm_at "go"
  refine to2 ⟨.bool (mayEx B p), .inl (.bl _), .inl (.bl _), by simp [PyData.depth], by simp [lnD], fun H16 f16 => ?_⟩
  have L16 := L14.frm (f15.trans f16)
  have dq16 := dq14.frm (f15.trans f16)
  clear L14 dq14 f15 f16
  wtm_at "go"
  rw [if_neg (by decide)]
  wtm_at "go"
  refine g_callS ?_
  wtm_at "go"
  cases hmx : mayEx B p with
  | false =>
    refine to2 ⟨Es, B, p, L16.dT, dq16, hgd, by omega, by omega, fun hm => absurd (hmx.symm.trans hm) (by decide), fun _ d' H17 f17 hd' => ⟨true, te, fun _ a' ha' => ?_, fun z => nomatch z⟩⟩
    wtm_at "wi"
    wtm_at "go"
    rw [if_pos (by decide)]
    wtm_at "go"
    refine g_xf ?_
    wtm_at "go"
    refine ⟨rfl, rfl, d', [("rule", .str "exchange")], .str "exchange", rfl, hd', rfl, ?_⟩
    wtm_at "go"
    exact q _
  | true =>
    refine to2 ⟨Es, B, p, L16.dT, dq16, hgd, by omega, by omega, fun _ v H17 f17 dF => ?_, fun hm => absurd (hmx.symm.trans hm) (by decide)⟩
    have hX := exB_xch p B hmx
    have L17 := L16.frm f17
    have dq17 := dq16.frm f17
    clear L16 dq16 f17
    obtain ⟨tf, ef, ppf, bf, rfl, htf, hef, hppf, dBf⟩ := dF.tree
    wtm_at "go"
    rw [if_neg (by decide)]
    have hat17 := L17.at_
    wtm_at "go"
    rename_i p18 H18 n18 f18 h18
    have hlp := mayEx_len p B hmx
    have gX := hX.gB hg
    have gdX := gX.good EO.ok
    have dpX := hX.dp
    have szX := hX.sz
    have okX := hX.okTree ok
    refine to2 ⟨B, p, L17.dB.frm f18, dq17.frm f18, hmx, by omega, by omega, fun v2 H19 f19 dv2 => ?_⟩
    wtm_at "go"
    rename_i p20 H20 n20 f20 h20
    have f1720 := (f18.trans f19).trans f20
    have L20 := L17.frm f1720
    refine to2 ⟨encT Es (exB B p), .inl (dF.frm f1720), .inl (.tup h20 (.cons (.tup L20.he DL.ofStrs) (.cons (.tup (f20.get0 (f19.get0 h18)) .nil) (.cons (dv2.frm f20) .nil)))), depT (gX.lyB EO.ok) (by omega), lnT EO.l6 gdX (by omega), fun H21 f21 => ?_⟩
    have L21 := L20.frm f21
    have dF21 := dF.frm (f1720.trans f21)
    have hat21 := L21.at_
    clear L17 L20 f18 f19 f20 f21 f1720 dF htf hef hppf dBf hat17 h18 h20 dv2 dq17
    wtm_at "go"
    rw [if_neg (by decide)]
    wtm_at "go"
    refine to2 ⟨d, c, e, Es, rfl, rfl, L21.T, L21.he, EO, fun dk H22 kv ins f22 hdk hin => ?_⟩
    have dT22 := L21.dT.frm f22
    have dF22 := dF21.frm f22
    have he22 := f22.tupS L21.he
    have hat22 := f22.tupS hat21
    have sc22 := L21.sc.frmD f22 L21.T.dK
    have he'22 := f22.tupS L21.he'
    clear L21 dF21 hat21 f22
    wtm_at "go"
    refine to2 ⟨Es, B, dk, kv, ins, dT22, EO, hg, ok, by omega, rfl, hdk, hin, fun wr1 rr1 kw1 kr1 H23 f23 hw1 hk1 hr1 ro1 hl1 => ?_⟩
    wtm_at "go"
    refine to2 ⟨Es, exB B p, dk, kv, ins, dF22.frm f23, EO, gX, okX, by omega, rfl, f23.get0 hdk, hin.frm f23, fun wr2 rr2 kw2 kr2 H24 f24 hw2 hk2 hr2 ro2 hl2 => ?_⟩
    have f2224 := f23.trans f24
    have hat24 := f2224.get0 hat22
    have he24 := f2224.get0 he22
    have sc24 := sc22.frm f2224
    have he'24 := f2224.get0 he'22
    have dF24 := dF22.frm f2224
    have hr14 := f24.get0 hr1
    have ro14 : RowsOk H24 kr1 Es (runB B 0 (W0 ins)).deeds := fun z hz => by
      obtain ⟨l1, us1, k1, k2, k3⟩ := ro1 z hz
      exact ⟨l1, us1, k1, f24.get0 k2, k3.frm f24⟩
    clear f23 f24 f2224 dT22 dF22 he22 hat22 sc22 he'22 hdk hin hw1 hk1 hr1 ro1
    wtm_at "go"
    refine KForT.mk (xs := Es.map V.str) (fun i σ H' => ∃ x9, σ = [some (.ref a), some (.ref d), some (.ref ta), some (.ref x), some (.ref l), some (.ref aq), some (.bl true), x7, x8, x9, some (.ref tf), none, some (.ref dk), some (.ref rr1), some (.ref rr2)] ∧ Frm [] H24 H')
      (fun i σ H' _ h => by obtain ⟨_, _, h⟩ := h; exact h.get0 he24) ⟨none, rfl, Frm.refl _ _⟩ (fun i y σ H' hx h => ?_) (fun σ H' h => ?_)
    · obtain ⟨x9, rfl, fH⟩ := h
      obtain ⟨z, hz, rfl⟩ := getMapStr hx
      have hz' := List.mem_of_getElem? hz
      obtain ⟨l1, us1, k1, hu1, d1⟩ := ro14 z hz'
      obtain ⟨l2, us2, k2, hu2, d2⟩ := ro2 z hz'
      have hr15 := fH.get0 hr14
      have hr25 := fH.get0 hr2
      clear hr14 hr2 hat24 he24
      wtm_at "go"
      refine to1 ⟨l1, us1, _, rfl, fH.get0 hu1, d1.frm fH, Nat.le_trans (List.length_filter_le _ _) (by omega), fun l3 H25 ys3 n3 f25 h3 d3 => ?_⟩
      have hr26 := f25.get0 hr25
      clear hr25 hr15
      wtm_at "go"
      refine to1 ⟨l2, us2, _, rfl, f25.get0 (fH.get0 hu2), (d2.frm fH).frm f25, Nat.le_trans (List.length_filter_le _ _) (by omega), fun l4 H26 ys4 n4 f26 h4 d4 => ?_⟩
      wtm_at "go"
      refine to2 ⟨.list (((runB B 0 (W0 ins)).deeds.filter fun d => decide (d.who = z)).map encBr), .inr ⟨l3, ys3, _, rfl, rfl, f26.get0 h3, d3.frm f26⟩, .inr ⟨l4, ys4, _, rfl, congrArg PyData.list (rows_eq hX ins z), h4, d4⟩, depL _, lnL (Nat.le_trans (List.length_filter_le _ _) hl1), fun H27 f27 => ?_⟩
      wtm_at "go"
      rw [if_neg (by decide)]
      wtm_at "go"
      exact ⟨_, rfl, ((fH.trans f25).trans f26).trans f27⟩
    · obtain ⟨x9, rfl, fH⟩ := h
      have sce := sc24.frm fH
      have hee := fH.get0 he'24
      have dFe := dF24.frm fH
      clear sc24 he'24 dF24 fH hr14 hr2 hat24 he24 ro14 ro2
      wtm_at "go"
      refine to1 ⟨e4, _, Es, sce, hee, fun hb p5 H28 f28 => ?_, fun hb H28 f28 => ?_⟩
      · skip
        wtm_at "go"
        refine g_make ?_
        wtm_at "go"
        refine fun x2 dx2 nx2 ndx2 nex2 => ?_
        have fx2 : Frm [] H28 (upd (upd H28 dx2 (.own x2)) x2 (.ins C dx2 [])) := (Frm.new ndx2).trans (Frm.new (by rw [upd_ne (Ne.symm nex2)]; exact nx2))
        refine to2 ⟨x2, dx2, Es, exB B p, rfl, upd_same, (dFe.frm f28).frm fx2, EO.nd, EO.l6, gdX, by omega, by omega, fun _ H29 e5 f29 hsc2 he5 => ⟨rfl, ?_⟩, fun z => absurd (okX.symm.trans z) (by decide)⟩
        wtm_at "go"
        refine to1 ⟨e5, _, Es, hsc2, he5, fun _ p6 H30 f30 => ?_, fun hn => ?_⟩
        rotate_left
        · obtain ⟨z, hz, hz2⟩ := hb
          exact absurd ((hX.clear z).mp hz2) (hn z hz)
        wtm_at "go"
        exact q _
      · skip
        wtm_at "go"
        refine g_make ?_
        wtm_at "go"
        refine fun x2 dx2 nx2 ndx2 nex2 => ?_
        have fx2 : Frm [] H28 (upd (upd H28 dx2 (.own x2)) x2 (.ins C dx2 [])) := (Frm.new ndx2).trans (Frm.new (by rw [upd_ne (Ne.symm nex2)]; exact nx2))
        refine to2 ⟨x2, dx2, Es, exB B p, rfl, upd_same, (dFe.frm f28).frm fx2, EO.nd, EO.l6, gdX, by omega, by omega, fun _ H29 e5 f29 hsc2 he5 => ⟨rfl, ?_⟩, fun z => absurd (okX.symm.trans z) (by decide)⟩
        wtm_at "go"
        refine to1 ⟨e5, _, Es, hsc2, he5, fun hy => ?_, fun _ H30 f30 => ?_⟩
        · obtain ⟨z, hz, hz2⟩ := hy
          exact absurd ((hX.clear z).mpr hz2) (hb z hz)
        wtm_at "go"
        exact q _
end

/-! Where each def stands; all promises put together. -/

theorem at_mk {K : PySem.W.Frag} {h : Heap} {mg : Str → Option Value} {f : Addr} {x : Str} {st : Stmt} {ps : List Str} {od an : Option Addr} {sl : Array (Option Value)} {oc kV dc pm cd ct : Value}
    (B : ∀ (kV doc pm : Value) (an : Option Addr) (cdv ct : Value) (us : List Value), us.length = ps.length → bindArgs (PySem.W.fnOf x x (defArgs st) (defBody st) (defScope st) .none kV doc pm an cdv ct) ⟨us, []⟩ = pure (ps.zip us))
    (X : K.In h) (G : h.Ns mainGlobals mg) (a : PySem.W.nsIn K mainGlobals x = some (some (.ref f)))
    (l : K.lookup f = some ⟨oc, od, .func (PySem.W.fnOf x x (defArgs st) (defBody st) (defScope st) .none kV dc pm an cd ct), sl⟩) (c : PySem.W.codeIn K cd x = true) (k : PySem.W.keepIn K (.ref f) = true) : At K mg x st ps :=
  ⟨f, _, fun_mk l c k, PySem.W.mg_of X G a, (fun_mk l c k).binds B⟩
theorem atM_mk {K : PySem.W.Frag} {f : Addr} {x qn : Str} {st : Stmt} {ps : List Str} {od an : Option Addr} {sl : Array (Option Value)} {oc kV dc pm cd ct : Value}
    (B : ∀ (kV doc pm : Value) (an : Option Addr) (cdv ct : Value) (us : List Value), us.length = ps.length → bindArgs (PySem.W.fnOf x qn (defArgs st) (defBody st) (defScope st) .none kV doc pm an cdv ct) ⟨us, []⟩ = pure (ps.zip us))
    (l : K.lookup f = some ⟨oc, od, .func (PySem.W.fnOf x qn (defArgs st) (defBody st) (defScope st) .none kV dc pm an cd ct), sl⟩) (c : PySem.W.codeIn K cd qn = true) (k : PySem.W.keepIn K (.ref f) = true) : AtM K x qn st ps f :=
  ⟨_, fun_mk l c k, (fun_mk l c k).binds B⟩
theorem exm_self {K : PySem.W.Frag} {S : Addr} (h1 : PySem.W.subIn K (.ref S) (.type "BaseException") = some true) (h2 : PySem.W.isClsIn K S = true) (h3 : PySem.W.typeIn K (.ref S) = some (.type "type")) (h4 : PySem.W.subIn K (.ref S) (.ref S) = some true) :
    PySem.W.exmOne K (.ref S) (.ref S) = some true := by
  have e1 : (PySem.W.subIn K (.ref S) (.type "BaseException") == some true) = true := by rw [h1] <;> rfl
  have e2 : ((PySem.W.clsIn K S).isSome && PySem.W.typeIn K (.ref S) == some (.type "type")) = true := by
    have h2' : (PySem.W.clsIn K S).isSome = true := h2
    rw [h2', h3] <;> rfl
  show (if (PySem.W.subIn K (.ref S) (.type "BaseException") == some true) = true then (if ((PySem.W.clsIn K S).isSome && PySem.W.typeIn K (.ref S) == some (.type "type")) = true then PySem.W.subIn K (.ref S) (.ref S) else none) else none) = some true
  rw [if_pos e1, if_pos e2]
  exact h4
theorem br_mk {K : PySem.W.Frag} {a : Addr} {od : Option Addr} {n : Nat} {sl : Array (Option Value)} {t1 t2 : _} (l : K.lookup a = some ⟨.type "tuple", od, .seq #[.str "if" t1, .str "while" t2] n, sl⟩) (H : Hp) : SqT K H a [.str "if", .str "while"] :=
  .inr ⟨_, _, _, l, rfl, rfl, by rw [sizeLine_eq]; exact Nat.le_of_ble_eq_true rfl, .cons ⟨t1, rfl⟩ (.cons ⟨t2, rfl⟩ .nil)⟩

theorem bHasDoubles : ∀ (kV doc pm : Value) (an : Option Addr) (cdv ct : Value) (us : List Value), us.length = (["names"] : List Str).length → bindArgs (PySem.W.fnOf "has_doubles" "has_doubles" (defArgs sHasDoubles) (defBody sHasDoubles) (defScope sHasDoubles) .none kV doc pm an cdv ct) ⟨us, []⟩ = pure ((["names"] : List Str).zip us) := fun _ _ _ _ _ _ us hl => match us, hl with | [_], _ => rfl
theorem bNeed : ∀ (kV doc pm : Value) (an : Option Addr) (cdv ct : Value) (us : List Value), us.length = (["condition", "rule"] : List Str).length → bindArgs (PySem.W.fnOf "need" "need" (defArgs sNeed) (defBody sNeed) (defScope sNeed) .none kV doc pm an cdv ct) ⟨us, []⟩ = pure ((["condition", "rule"] : List Str).zip us) := fun _ _ _ _ _ _ us hl => match us, hl with | [_, _], _ => rfl
theorem bInnerBlocks : ∀ (kV doc pm : Value) (an : Option Addr) (cdv ct : Value) (us : List Value), us.length = (["statement"] : List Str).length → bindArgs (PySem.W.fnOf "inner_blocks" "inner_blocks" (defArgs sInnerBlocks) (defBody sInnerBlocks) (defScope sInnerBlocks) .none kV doc pm an cdv ct) ⟨us, []⟩ = pure ((["statement"] : List Str).zip us) := fun _ _ _ _ _ _ us hl => match us, hl with | [_], _ => rfl
theorem bAllStatements : ∀ (kV doc pm : Value) (an : Option Addr) (cdv ct : Value) (us : List Value), us.length = (["block"] : List Str).length → bindArgs (PySem.W.fnOf "all_statements" "all_statements" (defArgs sAllStatements) (defBody sAllStatements) (defScope sAllStatements) .none kV doc pm an cdv ct) ⟨us, []⟩ = pure ((["block"] : List Str).zip us) := fun _ _ _ _ _ _ us hl => match us, hl with | [_], _ => rfl
theorem bCheckStatement : ∀ (kV doc pm : Value) (an : Option Addr) (cdv ct : Value) (us : List Value), us.length = (["statement", "ends", "parts"] : List Str).length → bindArgs (PySem.W.fnOf "check_statement" "check_statement" (defArgs sCheckStatement) (defBody sCheckStatement) (defScope sCheckStatement) .none kV doc pm an cdv ct) ⟨us, []⟩ = pure ((["statement", "ends", "parts"] : List Str).zip us) := fun _ _ _ _ _ _ us hl => match us, hl with | [_, _, _], _ => rfl
theorem bPartsInOrder : ∀ (kV doc pm : Value) (an : Option Addr) (cdv ct : Value) (us : List Value), us.length = (["parts"] : List Str).length → bindArgs (PySem.W.fnOf "parts_in_order" "parts_in_order" (defArgs sPartsInOrder) (defBody sPartsInOrder) (defScope sPartsInOrder) .none kV doc pm an cdv ct) ⟨us, []⟩ = pure ((["parts"] : List Str).zip us) := fun _ _ _ _ _ _ us hl => match us, hl with | [_], _ => rfl
theorem bMeasure : ∀ (kV doc pm : Value) (an : Option Addr) (cdv ct : Value) (us : List Value), us.length = (["block", "sizes", "loops"] : List Str).length → bindArgs (PySem.W.fnOf "measure" "measure" (defArgs sMeasure) (defBody sMeasure) (defScope sMeasure) .none kV doc pm an cdv ct) ⟨us, []⟩ = pure ((["block", "sizes", "loops"] : List Str).zip us) := fun _ _ _ _ _ _ us hl => match us, hl with | [_, _, _], _ => rfl
theorem bCheckTree : ∀ (kV doc pm : Value) (an : Option Addr) (cdv ct : Value) (us : List Value), us.length = (["tree"] : List Str).length → bindArgs (PySem.W.fnOf "check_tree" "check_tree" (defArgs sCheckTree) (defBody sCheckTree) (defScope sCheckTree) .none kV doc pm an cdv ct) ⟨us, []⟩ = pure ((["tree"] : List Str).zip us) := fun _ _ _ _ _ _ us hl => match us, hl with | [_], _ => rfl
theorem bEndsIn : ∀ (kV doc pm : Value) (an : Option Addr) (cdv ct : Value) (us : List Value), us.length = (["statement"] : List Str).length → bindArgs (PySem.W.fnOf "ends_in" "ends_in" (defArgs sEndsIn) (defBody sEndsIn) (defScope sEndsIn) .none kV doc pm an cdv ct) ⟨us, []⟩ = pure ((["statement"] : List Str).zip us) := fun _ _ _ _ _ _ us hl => match us, hl with | [_], _ => rfl
theorem bMayFollow : ∀ (kV doc pm : Value) (an : Option Addr) (cdv ct : Value) (us : List Value), us.length = (["block", "index"] : List Str).length → bindArgs (PySem.W.fnOf "may_follow" "may_follow" (defArgs sMayFollow) (defBody sMayFollow) (defScope sMayFollow) .none kV doc pm an cdv ct) ⟨us, []⟩ = pure ((["block", "index"] : List Str).zip us) := fun _ _ _ _ _ _ us hl => match us, hl with | [_, _], _ => rfl
theorem bInnerBlock : ∀ (kV doc pm : Value) (an : Option Addr) (cdv ct : Value) (us : List Value), us.length = (["block", "path"] : List Str).length → bindArgs (PySem.W.fnOf "inner_block" "inner_block" (defArgs sInnerBlock) (defBody sInnerBlock) (defScope sInnerBlock) .none kV doc pm an cdv ct) ⟨us, []⟩ = pure ((["block", "path"] : List Str).zip us) := fun _ _ _ _ _ _ us hl => match us, hl with | [_, _], _ => rfl
theorem bMayExchange : ∀ (kV doc pm : Value) (an : Option Addr) (cdv ct : Value) (us : List Value), us.length = (["tree", "path"] : List Str).length → bindArgs (PySem.W.fnOf "may_exchange" "may_exchange" (defArgs sMayExchange) (defBody sMayExchange) (defScope sMayExchange) .none kV doc pm an cdv ct) ⟨us, []⟩ = pure ((["tree", "path"] : List Str).zip us) := fun _ _ _ _ _ _ us hl => match us, hl with | [_, _], _ => rfl
theorem bExchangedIn : ∀ (kV doc pm : Value) (an : Option Addr) (cdv ct : Value) (us : List Value), us.length = (["block", "path"] : List Str).length → bindArgs (PySem.W.fnOf "exchanged_in" "exchanged_in" (defArgs sExchangedIn) (defBody sExchangedIn) (defScope sExchangedIn) .none kV doc pm an cdv ct) ⟨us, []⟩ = pure ((["block", "path"] : List Str).zip us) := fun _ _ _ _ _ _ us hl => match us, hl with | [_, _], _ => rfl
theorem bExchanged : ∀ (kV doc pm : Value) (an : Option Addr) (cdv ct : Value) (us : List Value), us.length = (["tree", "path"] : List Str).length → bindArgs (PySem.W.fnOf "exchanged" "exchanged" (defArgs sExchanged) (defBody sExchanged) (defScope sExchanged) .none kV doc pm an cdv ct) ⟨us, []⟩ = pure ((["tree", "path"] : List Str).zip us) := fun _ _ _ _ _ _ us hl => match us, hl with | [_, _], _ => rfl
theorem bAnswers : ∀ (kV doc pm : Value) (an : Option Addr) (cdv ct : Value) (us : List Value), us.length = (["score", "position"] : List Str).length → bindArgs (PySem.W.fnOf "answers" "answers" (defArgs sAnswers) (defBody sAnswers) (defScope sAnswers) .none kV doc pm an cdv ct) ⟨us, []⟩ = pure ((["score", "position"] : List Str).zip us) := fun _ _ _ _ _ _ us hl => match us, hl with | [_, _], _ => rfl
theorem bAfter : ∀ (kV doc pm : Value) (an : Option Addr) (cdv ct : Value) (us : List Value), us.length = (["score", "position", "answer"] : List Str).length → bindArgs (PySem.W.fnOf "after" "after" (defArgs sAfter) (defBody sAfter) (defScope sAfter) .none kV doc pm an cdv ct) ⟨us, []⟩ = pure ((["score", "position", "answer"] : List Str).zip us) := fun _ _ _ _ _ _ us hl => match us, hl with | [_, _, _], _ => rfl
theorem bConcerns : ∀ (kV doc pm : Value) (an : Option Addr) (cdv ct : Value) (us : List Value), us.length = (["score", "position", "end"] : List Str).length → bindArgs (PySem.W.fnOf "concerns" "concerns" (defArgs sConcerns) (defBody sConcerns) (defScope sConcerns) .none kV doc pm an cdv ct) ⟨us, []⟩ = pure ((["score", "position", "end"] : List Str).zip us) := fun _ _ _ _ _ _ us hl => match us, hl with | [_, _, _], _ => rfl
theorem bLook : ∀ (kV doc pm : Value) (an : Option Addr) (cdv ct : Value) (us : List Value), us.length = (["score", "position", "answer", "end"] : List Str).length → bindArgs (PySem.W.fnOf "look" "look" (defArgs sLook) (defBody sLook) (defScope sLook) .none kV doc pm an cdv ct) ⟨us, []⟩ = pure ((["score", "position", "answer", "end"] : List Str).zip us) := fun _ _ _ _ _ _ us hl => match us, hl with | [_, _, _, _], _ => rfl
theorem bMustAct : ∀ (kV doc pm : Value) (an : Option Addr) (cdv ct : Value) (us : List Value), us.length = (["score", "position", "end"] : List Str).length → bindArgs (PySem.W.fnOf "must_act" "must_act" (defArgs sMustAct) (defBody sMustAct) (defScope sMustAct) .none kV doc pm an cdv ct) ⟨us, []⟩ = pure ((["score", "position", "end"] : List Str).zip us) := fun _ _ _ _ _ _ us hl => match us, hl with | [_, _, _], _ => rfl
theorem bAgree : ∀ (kV doc pm : Value) (an : Option Addr) (cdv ct : Value) (us : List Value), us.length = (["score", "end", "first", "second"] : List Str).length → bindArgs (PySem.W.fnOf "agree" "agree" (defArgs sAgree) (defBody sAgree) (defScope sAgree) .none kV doc pm an cdv ct) ⟨us, []⟩ = pure ((["score", "end", "first", "second"] : List Str).zip us) := fun _ _ _ _ _ _ us hl => match us, hl with | [_, _, _, _], _ => rfl
theorem bPairSteps : ∀ (kV doc pm : Value) (an : Option Addr) (cdv ct : Value) (us : List Value), us.length = (["score", "end", "first", "second"] : List Str).length → bindArgs (PySem.W.fnOf "pair_steps" "pair_steps" (defArgs sPairSteps) (defBody sPairSteps) (defScope sPairSteps) .none kV doc pm an cdv ct) ⟨us, []⟩ = pure ((["score", "end", "first", "second"] : List Str).zip us) := fun _ _ _ _ _ _ us hl => match us, hl with | [_, _, _, _], _ => rfl
theorem bTraceBack : ∀ (kV doc pm : Value) (an : Option Addr) (cdv ct : Value) (us : List Value), us.length = (["came", "pair"] : List Str).length → bindArgs (PySem.W.fnOf "trace_back" "trace_back" (defArgs sTraceBack) (defBody sTraceBack) (defScope sTraceBack) .none kV doc pm an cdv ct) ⟨us, []⟩ = pure ((["came", "pair"] : List Str).zip us) := fun _ _ _ _ _ _ us hl => match us, hl with | [_, _], _ => rfl
theorem bWitnessFor : ∀ (kV doc pm : Value) (an : Option Addr) (cdv ct : Value) (us : List Value), us.length = (["score", "end"] : List Str).length → bindArgs (PySem.W.fnOf "witness_for" "witness_for" (defArgs sWitnessFor) (defBody sWitnessFor) (defScope sWitnessFor) .none kV doc pm an cdv ct) ⟨us, []⟩ = pure ((["score", "end"] : List Str).zip us) := fun _ _ _ _ _ _ us hl => match us, hl with | [_, _], _ => rfl
theorem bWitness : ∀ (kV doc pm : Value) (an : Option Addr) (cdv ct : Value) (us : List Value), us.length = (["score"] : List Str).length → bindArgs (PySem.W.fnOf "witness" "witness" (defArgs sWitness) (defBody sWitness) (defScope sWitness) .none kV doc pm an cdv ct) ⟨us, []⟩ = pure ((["score"] : List Str).zip us) := fun _ _ _ _ _ _ us hl => match us, hl with | [_], _ => rfl
theorem bPlayedStatement : ∀ (kV doc pm : Value) (an : Option Addr) (cdv ct : Value) (us : List Value), us.length = (["statement", "names", "parts"] : List Str).length → bindArgs (PySem.W.fnOf "played_statement" "played_statement" (defArgs sPlayedStatement) (defBody sPlayedStatement) (defScope sPlayedStatement) .none kV doc pm an cdv ct) ⟨us, []⟩ = pure ((["statement", "names", "parts"] : List Str).zip us) := fun _ _ _ _ _ _ us hl => match us, hl with | [_, _, _], _ => rfl
theorem bPlayedBlock : ∀ (kV doc pm : Value) (an : Option Addr) (cdv ct : Value) (us : List Value), us.length = (["block", "names", "parts"] : List Str).length → bindArgs (PySem.W.fnOf "played_block" "played_block" (defArgs sPlayedBlock) (defBody sPlayedBlock) (defScope sPlayedBlock) .none kV doc pm an cdv ct) ⟨us, []⟩ = pure ((["block", "names", "parts"] : List Str).zip us) := fun _ _ _ _ _ _ us hl => match us, hl with | [_, _, _], _ => rfl
theorem bPlayedOut : ∀ (kV doc pm : Value) (an : Option Addr) (cdv ct : Value) (us : List Value), us.length = (["tree"] : List Str).length → bindArgs (PySem.W.fnOf "played_out" "played_out" (defArgs sPlayedOut) (defBody sPlayedOut) (defScope sPlayedOut) .none kV doc pm an cdv ct) ⟨us, []⟩ = pure ((["tree"] : List Str).zip us) := fun _ _ _ _ _ _ us hl => match us, hl with | [_], _ => rfl
theorem bSizeOf : ∀ (kV doc pm : Value) (an : Option Addr) (cdv ct : Value) (us : List Value), us.length = (["block"] : List Str).length → bindArgs (PySem.W.fnOf "size_of" "size_of" (defArgs sSizeOf) (defBody sSizeOf) (defScope sSizeOf) .none kV doc pm an cdv ct) ⟨us, []⟩ = pure ((["block"] : List Str).zip us) := fun _ _ _ _ _ _ us hl => match us, hl with | [_], _ => rfl
theorem bLayOut : ∀ (kV doc pm : Value) (an : Option Addr) (cdv ct : Value) (us : List Value), us.length = (["block", "first", "behind", "statements", "follows"] : List Str).length → bindArgs (PySem.W.fnOf "lay_out" "lay_out" (defArgs sLayOut) (defBody sLayOut) (defScope sLayOut) .none kV doc pm an cdv ct) ⟨us, []⟩ = pure ((["block", "first", "behind", "statements", "follows"] : List Str).zip us) := fun _ _ _ _ _ _ us hl => match us, hl with | [_, _, _, _, _], _ => rfl
theorem bLawTape : ∀ (kV doc pm : Value) (an : Option Addr) (cdv ct : Value) (us : List Value), us.length = (["_law_script"] : List Str).length → bindArgs (PySem.W.fnOf "_law_tape" "_law_tape" (defArgs sLawTape) (defBody sLawTape) (defScope sLawTape) .none kV doc pm an cdv ct) ⟨us, []⟩ = pure ((["_law_script"] : List Str).zip us) := fun _ _ _ _ _ _ us hl => match us, hl with | [_], _ => rfl
theorem bLawTake : ∀ (kV doc pm : Value) (an : Option Addr) (cdv ct : Value) (us : List Value), us.length = (["_law_tape_here", "_law_many"] : List Str).length → bindArgs (PySem.W.fnOf "_law_take" "_law_take" (defArgs sLawTake) (defBody sLawTake) (defScope sLawTake) .none kV doc pm an cdv ct) ⟨us, []⟩ = pure ((["_law_tape_here", "_law_many"] : List Str).zip us) := fun _ _ _ _ _ _ us hl => match us, hl with | [_, _], _ => rfl
theorem bLawIsInteger : ∀ (kV doc pm : Value) (an : Option Addr) (cdv ct : Value) (us : List Value), us.length = (["_law_actual"] : List Str).length → bindArgs (PySem.W.fnOf "_law_is_integer" "_law_is_integer" (defArgs sLawIsInteger) (defBody sLawIsInteger) (defScope sLawIsInteger) .none kV doc pm an cdv ct) ⟨us, []⟩ = pure ((["_law_actual"] : List Str).zip us) := fun _ _ _ _ _ _ us hl => match us, hl with | [_], _ => rfl
theorem bLawSameItems : ∀ (kV doc pm : Value) (an : Option Addr) (cdv ct : Value) (us : List Value), us.length = (["_law_actual", "_law_expected"] : List Str).length → bindArgs (PySem.W.fnOf "_law_same_items" "_law_same_items" (defArgs sLawSameItems) (defBody sLawSameItems) (defScope sLawSameItems) .none kV doc pm an cdv ct) ⟨us, []⟩ = pure ((["_law_actual", "_law_expected"] : List Str).zip us) := fun _ _ _ _ _ _ us hl => match us, hl with | [_, _], _ => rfl
theorem bLawSame : ∀ (kV doc pm : Value) (an : Option Addr) (cdv ct : Value) (us : List Value), us.length = (["_law_actual", "_law_expected"] : List Str).length → bindArgs (PySem.W.fnOf "_law_same" "_law_same" (defArgs sLawSame) (defBody sLawSame) (defScope sLawSame) .none kV doc pm an cdv ct) ⟨us, []⟩ = pure ((["_law_actual", "_law_expected"] : List Str).zip us) := fun _ _ _ _ _ _ us hl => match us, hl with | [_, _], _ => rfl
theorem bLawNumber : ∀ (kV doc pm : Value) (an : Option Addr) (cdv ct : Value) (us : List Value), us.length = (["_law_tape_here"] : List Str).length → bindArgs (PySem.W.fnOf "_law_number" "_law_number" (defArgs sLawNumber) (defBody sLawNumber) (defScope sLawNumber) .none kV doc pm an cdv ct) ⟨us, []⟩ = pure ((["_law_tape_here"] : List Str).zip us) := fun _ _ _ _ _ _ us hl => match us, hl with | [_], _ => rfl
theorem bLawValue : ∀ (kV doc pm : Value) (an : Option Addr) (cdv ct : Value) (us : List Value), us.length = (["_law_tape_here", "_law_depth"] : List Str).length → bindArgs (PySem.W.fnOf "_law_value" "_law_value" (defArgs sLawValue) (defBody sLawValue) (defScope sLawValue) .none kV doc pm an cdv ct) ⟨us, []⟩ = pure ((["_law_tape_here", "_law_depth"] : List Str).zip us) := fun _ _ _ _ _ _ us hl => match us, hl with | [_, _], _ => rfl
theorem bLawTwo : ∀ (kV doc pm : Value) (an : Option Addr) (cdv ct : Value) (us : List Value), us.length = (["_law_tape_here", "_law_ends_here"] : List Str).length → bindArgs (PySem.W.fnOf "_law_two" "_law_two" (defArgs sLawTwo) (defBody sLawTwo) (defScope sLawTwo) .none kV doc pm an cdv ct) ⟨us, []⟩ = pure ((["_law_tape_here", "_law_ends_here"] : List Str).zip us) := fun _ _ _ _ _ _ us hl => match us, hl with | [_, _], _ => rfl
theorem bLawStatement : ∀ (kV doc pm : Value) (an : Option Addr) (cdv ct : Value) (us : List Value), us.length = (["_law_tape_here", "_law_ends_here", "_law_parts", "_law_depth"] : List Str).length → bindArgs (PySem.W.fnOf "_law_statement" "_law_statement" (defArgs sLawStatement) (defBody sLawStatement) (defScope sLawStatement) .none kV doc pm an cdv ct) ⟨us, []⟩ = pure ((["_law_tape_here", "_law_ends_here", "_law_parts", "_law_depth"] : List Str).zip us) := fun _ _ _ _ _ _ us hl => match us, hl with | [_, _, _, _], _ => rfl
theorem bLawBlock : ∀ (kV doc pm : Value) (an : Option Addr) (cdv ct : Value) (us : List Value), us.length = (["_law_tape_here", "_law_ends_here", "_law_parts", "_law_depth", "_law_most"] : List Str).length → bindArgs (PySem.W.fnOf "_law_block" "_law_block" (defArgs sLawBlock) (defBody sLawBlock) (defScope sLawBlock) .none kV doc pm an cdv ct) ⟨us, []⟩ = pure ((["_law_tape_here", "_law_ends_here", "_law_parts", "_law_depth", "_law_most"] : List Str).zip us) := fun _ _ _ _ _ _ us hl => match us, hl with | [_, _, _, _, _], _ => rfl
theorem bLawTree : ∀ (kV doc pm : Value) (an : Option Addr) (cdv ct : Value) (us : List Value), us.length = (["_law_tape_here", "_law_depth", "_law_most"] : List Str).length → bindArgs (PySem.W.fnOf "_law_tree" "_law_tree" (defArgs sLawTree) (defBody sLawTree) (defScope sLawTree) .none kV doc pm an cdv ct) ⟨us, []⟩ = pure ((["_law_tape_here", "_law_depth", "_law_most"] : List Str).zip us) := fun _ _ _ _ _ _ us hl => match us, hl with | [_, _, _], _ => rfl
theorem bLawAll : ∀ (kV doc pm : Value) (an : Option Addr) (cdv ct : Value) (us : List Value), us.length = (["_law_block_here"] : List Str).length → bindArgs (PySem.W.fnOf "_law_all" "_law_all" (defArgs sLawAll) (defBody sLawAll) (defScope sLawAll) .none kV doc pm an cdv ct) ⟨us, []⟩ = pure ((["_law_block_here"] : List Str).zip us) := fun _ _ _ _ _ _ us hl => match us, hl with | [_], _ => rfl
theorem bLawPlayed : ∀ (kV doc pm : Value) (an : Option Addr) (cdv ct : Value) (us : List Value), us.length = (["_law_block_here", "_law_names", "_law_parts"] : List Str).length → bindArgs (PySem.W.fnOf "_law_played" "_law_played" (defArgs sLawPlayed) (defBody sLawPlayed) (defScope sLawPlayed) .none kV doc pm an cdv ct) ⟨us, []⟩ = pure ((["_law_block_here", "_law_names", "_law_parts"] : List Str).zip us) := fun _ _ _ _ _ _ us hl => match us, hl with | [_, _, _], _ => rfl
theorem bLawPlay : ∀ (kV doc pm : Value) (an : Option Addr) (cdv ct : Value) (us : List Value), us.length = (["_law_tree_here"] : List Str).length → bindArgs (PySem.W.fnOf "_law_play" "_law_play" (defArgs sLawPlay) (defBody sLawPlay) (defScope sLawPlay) .none kV doc pm an cdv ct) ⟨us, []⟩ = pure ((["_law_tree_here"] : List Str).zip us) := fun _ _ _ _ _ _ us hl => match us, hl with | [_], _ => rfl
theorem bLawTell : ∀ (kV doc pm : Value) (an : Option Addr) (cdv ct : Value) (us : List Value), us.length = (["_law_ends_here", "_law_block_here", "_law_often", "_law_out", "_law_tape_here"] : List Str).length → bindArgs (PySem.W.fnOf "_law_tell" "_law_tell" (defArgs sLawTell) (defBody sLawTell) (defScope sLawTell) .none kV doc pm an cdv ct) ⟨us, []⟩ = pure ((["_law_ends_here", "_law_block_here", "_law_often", "_law_out", "_law_tape_here"] : List Str).zip us) := fun _ _ _ _ _ _ us hl => match us, hl with | [_, _, _, _, _], _ => rfl
theorem bLawClearTree : ∀ (kV doc pm : Value) (an : Option Addr) (cdv ct : Value) (us : List Value), us.length = (["_law_tape_here", "_law_depth", "_law_most"] : List Str).length → bindArgs (PySem.W.fnOf "_law_clear_tree" "_law_clear_tree" (defArgs sLawClearTree) (defBody sLawClearTree) (defScope sLawClearTree) .none kV doc pm an cdv ct) ⟨us, []⟩ = pure ((["_law_tape_here", "_law_depth", "_law_most"] : List Str).zip us) := fun _ _ _ _ _ _ us hl => match us, hl with | [_, _, _], _ => rfl
theorem bLawInputs : ∀ (kV doc pm : Value) (an : Option Addr) (cdv ct : Value) (us : List Value), us.length = (["_law_tape_here", "_law_ends_here"] : List Str).length → bindArgs (PySem.W.fnOf "_law_inputs" "_law_inputs" (defArgs sLawInputs) (defBody sLawInputs) (defScope sLawInputs) .none kV doc pm an cdv ct) ⟨us, []⟩ = pure ((["_law_tape_here", "_law_ends_here"] : List Str).zip us) := fun _ _ _ _ _ _ us hl => match us, hl with | [_, _], _ => rfl
theorem bLawCount : ∀ (kV doc pm : Value) (an : Option Addr) (cdv ct : Value) (us : List Value), us.length = (["_law_block_here"] : List Str).length → bindArgs (PySem.W.fnOf "_law_count" "_law_count" (defArgs sLawCount) (defBody sLawCount) (defScope sLawCount) .none kV doc pm an cdv ct) ⟨us, []⟩ = pure ((["_law_block_here"] : List Str).zip us) := fun _ _ _ _ _ _ us hl => match us, hl with | [_], _ => rfl
theorem bLawNum : ∀ (kV doc pm : Value) (an : Option Addr) (cdv ct : Value) (us : List Value), us.length = (["_law_tree_here", "_law_variables"] : List Str).length → bindArgs (PySem.W.fnOf "_law_num" "_law_num" (defArgs sLawNum) (defBody sLawNum) (defScope sLawNum) .none kV doc pm an cdv ct) ⟨us, []⟩ = pure ((["_law_tree_here", "_law_variables"] : List Str).zip us) := fun _ _ _ _ _ _ us hl => match us, hl with | [_, _], _ => rfl
theorem bLawPlain : ∀ (kV doc pm : Value) (an : Option Addr) (cdv ct : Value) (us : List Value), us.length = (["_law_block_here", "_law_w", "_law_at"] : List Str).length → bindArgs (PySem.W.fnOf "_law_plain" "_law_plain" (defArgs sLawPlain) (defBody sLawPlain) (defScope sLawPlain) .none kV doc pm an cdv ct) ⟨us, []⟩ = pure ((["_law_block_here", "_law_w", "_law_at"] : List Str).zip us) := fun _ _ _ _ _ _ us hl => match us, hl with | [_, _, _], _ => rfl
theorem bLawRun : ∀ (kV doc pm : Value) (an : Option Addr) (cdv ct : Value) (us : List Value), us.length = (["_law_tree_here", "_law_inputs_here"] : List Str).length → bindArgs (PySem.W.fnOf "_law_run" "_law_run" (defArgs sLawRun) (defBody sLawRun) (defScope sLawRun) .none kV doc pm an cdv ct) ⟨us, []⟩ = pure ((["_law_tree_here", "_law_inputs_here"] : List Str).zip us) := fun _ _ _ _ _ _ us hl => match us, hl with | [_, _], _ => rfl
theorem bLawEnds : ∀ (kV doc pm : Value) (an : Option Addr) (cdv ct : Value) (us : List Value), us.length = (["_law_one"] : List Str).length → bindArgs (PySem.W.fnOf "_law_ends" "_law_ends" (defArgs sLawEnds) (defBody sLawEnds) (defScope sLawEnds) .none kV doc pm an cdv ct) ⟨us, []⟩ = pure ((["_law_one"] : List Str).zip us) := fun _ _ _ _ _ _ us hl => match us, hl with | [_], _ => rfl
theorem bLawPaths : ∀ (kV doc pm : Value) (an : Option Addr) (cdv ct : Value) (us : List Value), us.length = (["_law_block_here"] : List Str).length → bindArgs (PySem.W.fnOf "_law_paths" "_law_paths" (defArgs sLawPaths) (defBody sLawPaths) (defScope sLawPaths) .none kV doc pm an cdv ct) ⟨us, []⟩ = pure ((["_law_block_here"] : List Str).zip us) := fun _ _ _ _ _ _ us hl => match us, hl with | [_], _ => rfl
theorem bLawBlockAt : ∀ (kV doc pm : Value) (an : Option Addr) (cdv ct : Value) (us : List Value), us.length = (["_law_block_here", "_law_path"] : List Str).length → bindArgs (PySem.W.fnOf "_law_block_at" "_law_block_at" (defArgs sLawBlockAt) (defBody sLawBlockAt) (defScope sLawBlockAt) .none kV doc pm an cdv ct) ⟨us, []⟩ = pure ((["_law_block_here", "_law_path"] : List Str).zip us) := fun _ _ _ _ _ _ us hl => match us, hl with | [_, _], _ => rfl
theorem bLawWith : ∀ (kV doc pm : Value) (an : Option Addr) (cdv ct : Value) (us : List Value), us.length = (["_law_block_here", "_law_path"] : List Str).length → bindArgs (PySem.W.fnOf "_law_with" "_law_with" (defArgs sLawWith) (defBody sLawWith) (defScope sLawWith) .none kV doc pm an cdv ct) ⟨us, []⟩ = pure ((["_law_block_here", "_law_path"] : List Str).zip us) := fun _ _ _ _ _ _ us hl => match us, hl with | [_, _], _ => rfl
theorem bLawBare : ∀ (kV doc pm : Value) (an : Option Addr) (cdv ct : Value) (us : List Value), us.length = (["_law_row"] : List Str).length → bindArgs (PySem.W.fnOf "_law_bare" "_law_bare" (defArgs sLawBare) (defBody sLawBare) (defScope sLawBare) .none kV doc pm an cdv ct) ⟨us, []⟩ = pure ((["_law_row"] : List Str).zip us) := fun _ _ _ _ _ _ us hl => match us, hl with | [_], _ => rfl
theorem bInvalidscoreInit : ∀ (kV doc pm : Value) (an : Option Addr) (cdv ct : Value) (us : List Value), us.length = (["self", "rule"] : List Str).length → bindArgs (PySem.W.fnOf "__init__" "InvalidScore.__init__" (defArgs sInvalidscoreInit) (defBody sInvalidscoreInit) (defScope sInvalidscoreInit) .none kV doc pm an cdv ct) ⟨us, []⟩ = pure ((["self", "rule"] : List Str).zip us) := fun _ _ _ _ _ _ us hl => match us, hl with | [_, _], _ => rfl
theorem bScoreInit : ∀ (kV doc pm : Value) (an : Option Addr) (cdv ct : Value) (us : List Value), us.length = (["self", "tree"] : List Str).length → bindArgs (PySem.W.fnOf "__init__" "Score.__init__" (defArgs sScoreInit) (defBody sScoreInit) (defScope sScoreInit) .none kV doc pm an cdv ct) ⟨us, []⟩ = pure ((["self", "tree"] : List Str).zip us) := fun _ _ _ _ _ _ us hl => match us, hl with | [_, _], _ => rfl
theorem go_on {p q : Prop} (h : p) (f : p → q) : q := f h
theorem tx_mk {K : PySem.W.Frag} {h : Heap} {mg : Str → Option Value} {t1 t2 t3 : _} {aB : Addr} {od : Option Addr} {n : Nat} {sl : Array (Option Value)} {u1 u2 : _} (X : K.In h) (G : h.Ns mainGlobals mg) (z0 : PySem.W.nsIn K mainGlobals "len" = some none) (z1 : PySem.W.nsIn K mainGlobals "all" = some none) (z2 : PySem.W.nsIn K mainGlobals "any" = some none) (z3 : PySem.W.nsIn K mainGlobals "abs" = some none) (z4 : PySem.W.nsIn K mainGlobals "int" = some none) (z5 : PySem.W.nsIn K mainGlobals "tuple" = some none) (z6 : PySem.W.nsIn K mainGlobals "list" = some none) (z7 : PySem.W.nsIn K mainGlobals "str" = some none) (z8 : PySem.W.nsIn K mainGlobals "max" = some none) (z9 : PySem.W.nsIn K mainGlobals "range" = some none) (z10 : PySem.W.nsIn K mainGlobals "enumerate" = some none) (z11 : PySem.W.nsIn K mainGlobals "set" = some none) (z12 : PySem.W.nsIn K mainGlobals "isinstance" = some none) (z13 : PySem.W.nsIn K mainGlobals "bool" = some none) (z14 : PySem.W.nsIn K mainGlobals "dict" = some none) (z15 : PySem.W.nsIn K mainGlobals "zip" = some none)
    (me : PySem.W.nsIn K mainGlobals "MOST_ENDS" = some (some (.int 6 t1))) (ml : PySem.W.nsIn K mainGlobals "MOST_LOOPS" = some (some (.int 3 t2))) (ms : PySem.W.nsIn K mainGlobals "MOST_STATEMENTS" = some (some (.int 150 t3)))
    (br : PySem.W.nsIn K mainGlobals "BRANCHES" = some (some (.ref aB))) (bl : K.lookup aB = some ⟨.type "tuple", od, .seq #[.str "if" u1, .str "while" u2] n, sl⟩) : Tx K mg :=
  ⟨PySem.W.mg_none_of X G z0, PySem.W.mg_none_of X G z1, PySem.W.mg_none_of X G z2, PySem.W.mg_none_of X G z3, PySem.W.mg_none_of X G z4, PySem.W.mg_none_of X G z5, PySem.W.mg_none_of X G z6, PySem.W.mg_none_of X G z7, PySem.W.mg_none_of X G z8, PySem.W.mg_none_of X G z9, PySem.W.mg_none_of X G z10, PySem.W.mg_none_of X G z11, PySem.W.mg_none_of X G z12, PySem.W.mg_none_of X G z13, PySem.W.mg_none_of X G z14, PySem.W.mg_none_of X G z15, ⟨_, PySem.W.mg_of X G me⟩, ⟨_, PySem.W.mg_of X G ml⟩, ⟨_, PySem.W.mg_of X G ms⟩, ⟨_, PySem.W.mg_of X G br, br_mk bl⟩⟩
theorem ex_mk {K : PySem.W.Frag} {h : Heap} {mg : Str → Option Value} {CI fI : Addr} (X : K.In h) (G : h.Ns mainGlobals mg) {nm qn : Str} {N : Addr} {bs bm : List Value} {sn : List Str} {sub : List Value} {ab : Bool} {col : Option Bool} {dd : Option Addr} {k0 k1 k2 k3 k5 : Option Value}
    {od an : Option Addr} {sl : Array (Option Value)} {oc kV dc pm cd ct : Value}
    (gc : PySem.W.nsIn K mainGlobals "InvalidScore" = some (some (.ref CI))) (cl : K.lookup CI = some (excClassObj nm qn CI N bs bm true sn sub ab col dd k0 k1 k2 k3 k5 "ValueError.__new__")) (bo : PySem.HandSPX.refsVE bm = true)
    (sa : PySem.W.findIn K (.ref CI) "__setattr__" = some (some (.builtin "object.__setattr__"))) (ex : PySem.W.subIn K (.ref CI) (.type "BaseException") = some true) (ty : PySem.W.typeIn K (.ref CI) = some (.type "type")) (kp : PySem.W.keepIn K (.ref CI) = true)
    (ic : PySem.W.findIn K (.ref CI) "__init__" = some (some (.ref fI))) (ti : PySem.W.typeIn K (.ref fI) = some (.type "function")) (no : PySem.W.findIn K (.ref CI) "rule" = some none)
    (ga : PySem.W.findIn K (.ref CI) "__getattribute__" = some (some (.builtin "BaseException.__getattribute__"))) (gg : PySem.W.findIn K (.ref CI) "__getattr__" = some none) (hd : PySem.W.hasDictIn K CI = true) (icl : PySem.W.isClsIn K CI = true) (su : PySem.W.subIn K (.ref CI) (.ref CI) = some true)
    (l : K.lookup fI = some ⟨oc, od, .func (PySem.W.fnOf "__init__" "InvalidScore.__init__" (defArgs sInvalidscoreInit) (defBody sInvalidscoreInit) (defScope sInvalidscoreInit) .none kV dc pm an cd ct), sl⟩) (c : PySem.W.codeIn K cd "InvalidScore.__init__" = true) (k : PySem.W.keepIn K (.ref fI) = true) :
    ExC K mg CI fI ∧ XfC K CI ∧ PySem.W.exmOne K (.ref CI) (.ref CI) = some true ∧ AtM K "__init__" "InvalidScore.__init__" sInvalidscoreInit ["self", "rule"] fI :=
  ⟨⟨⟨⟨nm, qn, N, bs, bm, sn, sub, ab, col, dd, k0, k1, k2, k3, k5, cl, bo⟩, sa, ex, ty, kp⟩, ic, ti, no, PySem.W.mg_of X G gc⟩, ⟨ga, gg, ex, hd⟩, exm_self ex icl ty su, atM_mk bInvalidscoreInit l c k⟩
theorem sc_mk {K : PySem.W.Frag} {h : Heap} {mg : Str → Option Value} {C fS : Addr} (X : K.In h) (G : h.Ns mainGlobals mg) {od an : Option Addr} {sl : Array (Option Value)} {oc kV dc pm cd ct : Value}
    (gc : PySem.W.nsIn K mainGlobals "Score" = some (some (.ref C))) (mk : PySem.W.makesIn K C = true) (ic : PySem.W.findIn K (.ref C) "__init__" = some (some (.ref fS))) (fn : PySem.W.isFn K (.ref fS) = true) (kp : PySem.W.keepIn K (.ref C) = true)
    (pg : PySem.W.plainGet K C Str.empty = true) (hd : PySem.W.hasDictIn K C = true) (po : PySem.W.plainOver K C = true) (sa : PySem.W.findIn K (.ref C) "__setattr__" = some (some (.builtin "object.__setattr__")))
    (n1 : PySem.W.findIn K (.ref C) "ends" = some none) (n2 : PySem.W.findIn K (.ref C) "block" = some none) (n3 : PySem.W.findIn K (.ref C) "statements" = some none) (n4 : PySem.W.findIn K (.ref C) "next" = some none)
    (l : K.lookup fS = some ⟨oc, od, .func (PySem.W.fnOf "__init__" "Score.__init__" (defArgs sScoreInit) (defBody sScoreInit) (defScope sScoreInit) .none kV dc pm an cd ct), sl⟩) (c : PySem.W.codeIn K cd "Score.__init__" = true) (k : PySem.W.keepIn K (.ref fS) = true) :
    mg "Score" = some (.ref C) ∧ Mk K C fS ∧ ScC K C ∧ AtM K "__init__" "Score.__init__" sScoreInit ["self", "tree"] fS :=
  ⟨PySem.W.mg_of X G gc, ⟨mk, ic, fn, kp⟩, ⟨⟨pg, hd, po, sa⟩, n1, n2, n3, n4⟩, atM_mk bScoreInit l c k⟩
theorem law_mk {K : PySem.W.Frag} {h : Heap} {mg : Str → Option Value} {fa f : Addr} (X : K.In h) (G : h.Ns mainGlobals mg) (hm : mg "law" = some (.ref fa)) {od an : Option Addr} {sl : Array (Option Value)} {oc kV dc pm cd ct : Value}
    (a : PySem.W.nsIn K mainGlobals "law" = some (some (.ref f))) (l : K.lookup f = some ⟨oc, od, .func (PySem.W.fnOf "law" "law" (defArgs sLaw) (defBody sLaw) (defScope sLaw) .none kV dc pm an cd ct), sl⟩) (c : PySem.W.codeIn K cd "law" = true) (k : PySem.W.keepIn K (.ref f) = true) :
    ∃ fd, Fun K "law" "law" sLaw fa fd ∧ ∀ (s : Shared) (u : Value), BindsTo s fd ⟨[u], []⟩ [("_law_script", u)] := by
  cases hm.symm.trans (PySem.W.mg_of X G a)
  exact ⟨_, fun_mk l c k, fun s u => .of_eq rfl⟩

section
variable {P : Program} {w : World} {K : PySem.W.Frag} {mg : Str → Option Value} {base : Heap} {CI fI C fS : Addr}
structure Ats (K : PySem.W.Frag) (mg : Str → Option Value) : Prop where
  sHasDoubles : At K mg "has_doubles" sHasDoubles ["names"]
  sNeed : At K mg "need" sNeed ["condition", "rule"]
  sInnerBlocks : At K mg "inner_blocks" sInnerBlocks ["statement"]
  sAllStatements : At K mg "all_statements" sAllStatements ["block"]
  sCheckStatement : At K mg "check_statement" sCheckStatement ["statement", "ends", "parts"]
  sPartsInOrder : At K mg "parts_in_order" sPartsInOrder ["parts"]
  sMeasure : At K mg "measure" sMeasure ["block", "sizes", "loops"]
  sCheckTree : At K mg "check_tree" sCheckTree ["tree"]
  sEndsIn : At K mg "ends_in" sEndsIn ["statement"]
  sMayFollow : At K mg "may_follow" sMayFollow ["block", "index"]
  sInnerBlock : At K mg "inner_block" sInnerBlock ["block", "path"]
  sMayExchange : At K mg "may_exchange" sMayExchange ["tree", "path"]
  sExchangedIn : At K mg "exchanged_in" sExchangedIn ["block", "path"]
  sExchanged : At K mg "exchanged" sExchanged ["tree", "path"]
  sAnswers : At K mg "answers" sAnswers ["score", "position"]
  sAfter : At K mg "after" sAfter ["score", "position", "answer"]
  sConcerns : At K mg "concerns" sConcerns ["score", "position", "end"]
  sLook : At K mg "look" sLook ["score", "position", "answer", "end"]
  sMustAct : At K mg "must_act" sMustAct ["score", "position", "end"]
  sAgree : At K mg "agree" sAgree ["score", "end", "first", "second"]
  sPairSteps : At K mg "pair_steps" sPairSteps ["score", "end", "first", "second"]
  sTraceBack : At K mg "trace_back" sTraceBack ["came", "pair"]
  sWitnessFor : At K mg "witness_for" sWitnessFor ["score", "end"]
  sWitness : At K mg "witness" sWitness ["score"]
  sPlayedStatement : At K mg "played_statement" sPlayedStatement ["statement", "names", "parts"]
  sPlayedBlock : At K mg "played_block" sPlayedBlock ["block", "names", "parts"]
  sPlayedOut : At K mg "played_out" sPlayedOut ["tree"]
  sSizeOf : At K mg "size_of" sSizeOf ["block"]
  sLayOut : At K mg "lay_out" sLayOut ["block", "first", "behind", "statements", "follows"]
  sLawTape : At K mg "_law_tape" sLawTape ["_law_script"]
  sLawTake : At K mg "_law_take" sLawTake ["_law_tape_here", "_law_many"]
  sLawIsInteger : At K mg "_law_is_integer" sLawIsInteger ["_law_actual"]
  sLawSameItems : At K mg "_law_same_items" sLawSameItems ["_law_actual", "_law_expected"]
  sLawSame : At K mg "_law_same" sLawSame ["_law_actual", "_law_expected"]
  sLawNumber : At K mg "_law_number" sLawNumber ["_law_tape_here"]
  sLawValue : At K mg "_law_value" sLawValue ["_law_tape_here", "_law_depth"]
  sLawTwo : At K mg "_law_two" sLawTwo ["_law_tape_here", "_law_ends_here"]
  sLawStatement : At K mg "_law_statement" sLawStatement ["_law_tape_here", "_law_ends_here", "_law_parts", "_law_depth"]
  sLawBlock : At K mg "_law_block" sLawBlock ["_law_tape_here", "_law_ends_here", "_law_parts", "_law_depth", "_law_most"]
  sLawTree : At K mg "_law_tree" sLawTree ["_law_tape_here", "_law_depth", "_law_most"]
  sLawAll : At K mg "_law_all" sLawAll ["_law_block_here"]
  sLawPlayed : At K mg "_law_played" sLawPlayed ["_law_block_here", "_law_names", "_law_parts"]
  sLawPlay : At K mg "_law_play" sLawPlay ["_law_tree_here"]
  sLawTell : At K mg "_law_tell" sLawTell ["_law_ends_here", "_law_block_here", "_law_often", "_law_out", "_law_tape_here"]
  sLawClearTree : At K mg "_law_clear_tree" sLawClearTree ["_law_tape_here", "_law_depth", "_law_most"]
  sLawInputs : At K mg "_law_inputs" sLawInputs ["_law_tape_here", "_law_ends_here"]
  sLawCount : At K mg "_law_count" sLawCount ["_law_block_here"]
  sLawNum : At K mg "_law_num" sLawNum ["_law_tree_here", "_law_variables"]
  sLawPlain : At K mg "_law_plain" sLawPlain ["_law_block_here", "_law_w", "_law_at"]
  sLawRun : At K mg "_law_run" sLawRun ["_law_tree_here", "_law_inputs_here"]
  sLawEnds : At K mg "_law_ends" sLawEnds ["_law_one"]
  sLawPaths : At K mg "_law_paths" sLawPaths ["_law_block_here"]
  sLawBlockAt : At K mg "_law_block_at" sLawBlockAt ["_law_block_here", "_law_path"]
  sLawWith : At K mg "_law_with" sLawWith ["_law_block_here", "_law_path"]
  sLawBare : At K mg "_law_bare" sLawBare ["_law_row"]
theorem ok_blkN (T : Tx K mg) (Z : Ats K mg) (C__law_take : Has P w K mg base CX0 "_law_take" ["_law_tape_here", "_law_many"] 1 (sp2 pTake)) (C__law_two : Has P w K mg base CX0 "_law_two" ["_law_tape_here", "_law_ends_here"] 2 (sp2 pTwo))
    (C__law_value : Has P w K mg base CX0 "_law_value" ["_law_tape_here", "_law_depth"] 6 (sp2 (pVal 3))) : ∀ n, Has P w K mg base CX0 "_law_block" ["_law_tape_here", "_law_ends_here", "_law_parts", "_law_depth", "_law_most"] (2 * n + 6) (sp5 (pBlk n))
  | 0 => has_no Z.sLawBlock fun vs H Q E h => by obtain ⟨_, _, _, _, _, _, _, _, _, _, _, _, _, _, _, _, _, _, _, _, h, _⟩ := h; exact absurd h (Nat.not_lt_zero _)
  | n + 1 => ok_blk T Z.sLawBlock C__law_take (ok_stm T Z.sLawStatement C__law_take C__law_two C__law_value (ok_blkN T Z C__law_take C__law_two C__law_value n))
theorem ok_whole (Ex : ExC K mg CI fI) (XF : XfC K CI) (te : PySem.W.exmOne K (.ref CI) (.ref CI) = some true) (MK : Mk K C fS) (SG : mg "Score" = some (.ref C)) (SC : ScC K C) (T : Tx K mg) (Z : Ats K mg)
    (AI : AtM K "__init__" "InvalidScore.__init__" sInvalidscoreInit ["self", "rule"] fI) (AS : AtM K "__init__" "Score.__init__" sScoreInit ["self", "tree"] fS) {f : Addr} {fd : FuncData} (F : Fun K "law" "law" sLaw f fd) :
    FnOk P w K mg base CX0 63 f fd ["_law_script"] (sp1 (pLaw K)) := by
  have c_after := ok_after (P := P) (w := w) (base := base) (C := C) Z.sAfter
  have c_conc := ok_concerns (P := P) (w := w) (base := base) (C := C) Z.sConcerns
  have c_look := ok_look (P := P) (w := w) (base := base) (C := C) Z.sLook
  have c_answers := ok_answers (P := P) (w := w) (base := base) (C := C) T Z.sAnswers
  have c_must := ok_must T Z.sMustAct c_conc
  have c_agree := ok_agree T Z.sAgree c_look
  have c_pair := ok_pair T Z.sPairSteps c_look c_must c_answers c_after
  have c_trace := ok_trace (P := P) (w := w) (base := base) T Z.sTraceBack
  have c_witf := ok_witf T Z.sWitnessFor c_must c_agree c_trace c_pair
  have c_wit := ok_witness T Z.sWitness c_witf
  have c_ini := ok_ini (P := P) (w := w) (base := base) Ex AI
  have c_dbl := ok_dbl (P := P) (w := w) (base := base) T Z.sHasDoubles
  have c_need := ok_need Ex T Z.sNeed c_ini
  have c_inner := ok_inner (P := P) (w := w) (base := base) Z.sInnerBlocks
  have c_all := ok_all T Z.sAllStatements c_inner
  have c_chk := ok_chk T Z.sCheckStatement c_need c_dbl
  have c_pio := ok_pio (P := P) (w := w) (base := base) T Z.sPartsInOrder
  have c_meas := ok_meas T Z.sMeasure c_inner
  have c_tree := ok_tree T Z.sCheckTree c_need c_dbl (c_all 8) c_chk c_pio (c_meas 8)
  have c_endsIn := ok_endsIn T Z.sEndsIn (c_all 8)
  have c_mayF := ok_mayF T Z.sMayFollow c_endsIn
  have c_inB := ok_inB (P := P) (w := w) (base := base) T Z.sInnerBlock
  have c_mayX := ok_mayX T Z.sMayExchange c_inB c_mayF
  have c_exI := ok_exI (P := P) (w := w) (base := base) T Z.sExchangedIn
  have c_exch := ok_exch Ex T Z.sExchanged c_ini c_mayX (c_exI 20)
  have c_plB := ok_pl (P := P) (w := w) (base := base) T Z.sPlayedStatement Z.sPlayedBlock
  have c_plO := ok_plO T Z.sPlayedOut (c_plB 8)
  have c_sz := ok_sz (P := P) (w := w) (base := base) T Z.sSizeOf
  have c_lay := ok_lay T Z.sLayOut c_sz
  have c_score := ok_score SC T AS c_tree c_plO (c_sz 8) (c_lay 8)
  have c_take := ok_take (P := P) (w := w) (base := base) T Z.sLawTake
  have c_num := ok_num T Z.sLawNumber c_take
  have c_val := ok_val T Z.sLawValue c_take c_num
  have c_two := ok_two T Z.sLawTwo c_take
  have c_blk := ok_blkN T Z c_take c_two (c_val 3)
  have c_treeG := ok_treeG T Z.sLawTree c_take (c_blk 3)
  have c_pld := ok_pld (P := P) (w := w) (base := base) T Z.sLawPlayed
  have c_play := ok_play T Z.sLawPlay (c_pld 30)
  have c_tell := ok_tell T Z.sLawTell c_take
  have c_clr := ok_clr T Z.sLawClearTree c_take c_treeG c_play (c_tell 8)
  have c_tape := ok_tape (P := P) (w := w) (base := base) T Z.sLawTape
  have c_lall := ok_lall (P := P) (w := w) (base := base) T Z.sLawAll
  have c_cnt := ok_cnt T Z.sLawCount (c_lall 8)
  have c_lends := ok_lends T Z.sLawEnds (c_lall 8)
  have c_bat := ok_bat (P := P) (w := w) (base := base) T Z.sLawBlockAt
  have c_with := ok_with (P := P) (w := w) (base := base) T Z.sLawWith
  have c_lnum := ok_lnum (P := P) (w := w) (base := base) T Z.sLawNum
  have c_paths := ok_paths (P := P) (w := w) (base := base) T Z.sLawPaths
  have c_bare := ok_bare (P := P) (w := w) (base := base) T Z.sLawBare
  have c_inp := ok_inp T Z.sLawInputs c_take c_num
  have c_plain := ok_plain T Z.sLawPlain (c_lnum 9) c_cnt
  have c_run := ok_run T Z.sLawRun c_play (c_plain 7)
  have c_isI := ok_isI (P := P) (w := w) (base := base) T Z.sLawIsInteger
  have c_same := ok_sm T Z.sLawSame Z.sLawSameItems c_isI
  exact ok_law Ex XF te MK SG T F c_tape c_clr c_score (c_paths 8) c_take c_bat c_lends (c_same 30) c_mayX c_exch (c_with 20) c_inp c_run c_bare c_wit
end

end K34
open PySem PySem.W PyProof.Rows
set_option maxHeartbeats 0 in
theorem PySem.Challenge.cw_onescore_k34_whole_exchanged_statements_holds : PySem.Challenge.rw_onescore_k34_whole_exchanged_statements.Holds := by
  w_on; o_law; k_head; (case hw => w_witness2)
  k_fill
  refine L2.walk_of (l := PySem.Challenge.rw_onescore_k34_whole_exchanged_statements) (n := 63) (k := 63) (x := "_law_script") (CX := fun _ => L2.CX0) (sp := fun w => K34.sp1 (K34.pLaw _)) rfl (by decide) rfl ⟨rfl, by decide, by decide⟩ (fun w h Y => PySem.W.kIn_of Y) ?F (fun _ _ a ns hl _ hS => ⟨.ref a, rfl, a, ns, rfl, hS, hl, fun _ => rfl⟩) (fun _ _ _ _ _ h => h)
  case F =>
    intro w mg fa h KX G hmg
    refine' K34.go_on (K34.at_mk K34.bHasDoubles KX G ?q1_a ?q1_l ?q1_c ?q1_k) (fun AHasDoubles => ?q1_nx)
    (case q1_a => k_is)
    (case q1_l => k_is)
    (case q1_c => k_is)
    (case q1_k => k_is)
    refine' K34.go_on (K34.at_mk K34.bNeed KX G ?q2_a ?q2_l ?q2_c ?q2_k) (fun ANeed => ?q2_nx)
    (case q2_a => k_is)
    (case q2_l => k_is)
    (case q2_c => k_is)
    (case q2_k => k_is)
    refine' K34.go_on (K34.at_mk K34.bInnerBlocks KX G ?q3_a ?q3_l ?q3_c ?q3_k) (fun AInnerBlocks => ?q3_nx)
    (case q3_a => k_is)
    (case q3_l => k_is)
    (case q3_c => k_is)
    (case q3_k => k_is)
    refine' K34.go_on (K34.at_mk K34.bAllStatements KX G ?q4_a ?q4_l ?q4_c ?q4_k) (fun AAllStatements => ?q4_nx)
    (case q4_a => k_is)
    (case q4_l => k_is)
    (case q4_c => k_is)
    (case q4_k => k_is)
    refine' K34.go_on (K34.at_mk K34.bCheckStatement KX G ?q5_a ?q5_l ?q5_c ?q5_k) (fun ACheckStatement => ?q5_nx)
    (case q5_a => k_is)
    (case q5_l => k_is)
    (case q5_c => k_is)
    (case q5_k => k_is)
    refine' K34.go_on (K34.at_mk K34.bPartsInOrder KX G ?q6_a ?q6_l ?q6_c ?q6_k) (fun APartsInOrder => ?q6_nx)
    (case q6_a => k_is)
    (case q6_l => k_is)
    (case q6_c => k_is)
    (case q6_k => k_is)
    refine' K34.go_on (K34.at_mk K34.bMeasure KX G ?q7_a ?q7_l ?q7_c ?q7_k) (fun AMeasure => ?q7_nx)
    (case q7_a => k_is)
    (case q7_l => k_is)
    (case q7_c => k_is)
    (case q7_k => k_is)
    refine' K34.go_on (K34.at_mk K34.bCheckTree KX G ?q8_a ?q8_l ?q8_c ?q8_k) (fun ACheckTree => ?q8_nx)
    (case q8_a => k_is)
    (case q8_l => k_is)
    (case q8_c => k_is)
    (case q8_k => k_is)
    refine' K34.go_on (K34.at_mk K34.bEndsIn KX G ?q9_a ?q9_l ?q9_c ?q9_k) (fun AEndsIn => ?q9_nx)
    (case q9_a => k_is)
    (case q9_l => k_is)
    (case q9_c => k_is)
    (case q9_k => k_is)
    refine' K34.go_on (K34.at_mk K34.bMayFollow KX G ?q10_a ?q10_l ?q10_c ?q10_k) (fun AMayFollow => ?q10_nx)
    (case q10_a => k_is)
    (case q10_l => k_is)
    (case q10_c => k_is)
    (case q10_k => k_is)
    refine' K34.go_on (K34.at_mk K34.bInnerBlock KX G ?q11_a ?q11_l ?q11_c ?q11_k) (fun AInnerBlock => ?q11_nx)
    (case q11_a => k_is)
    (case q11_l => k_is)
    (case q11_c => k_is)
    (case q11_k => k_is)
    refine' K34.go_on (K34.at_mk K34.bMayExchange KX G ?q12_a ?q12_l ?q12_c ?q12_k) (fun AMayExchange => ?q12_nx)
    (case q12_a => k_is)
    (case q12_l => k_is)
    (case q12_c => k_is)
    (case q12_k => k_is)
    refine' K34.go_on (K34.at_mk K34.bExchangedIn KX G ?q13_a ?q13_l ?q13_c ?q13_k) (fun AExchangedIn => ?q13_nx)
    (case q13_a => k_is)
    (case q13_l => k_is)
    (case q13_c => k_is)
    (case q13_k => k_is)
    refine' K34.go_on (K34.at_mk K34.bExchanged KX G ?q14_a ?q14_l ?q14_c ?q14_k) (fun AExchanged => ?q14_nx)
    (case q14_a => k_is)
    (case q14_l => k_is)
    (case q14_c => k_is)
    (case q14_k => k_is)
    refine' K34.go_on (K34.at_mk K34.bAnswers KX G ?q15_a ?q15_l ?q15_c ?q15_k) (fun AAnswers => ?q15_nx)
    (case q15_a => k_is)
    (case q15_l => k_is)
    (case q15_c => k_is)
    (case q15_k => k_is)
    refine' K34.go_on (K34.at_mk K34.bAfter KX G ?q16_a ?q16_l ?q16_c ?q16_k) (fun AAfter => ?q16_nx)
    (case q16_a => k_is)
    (case q16_l => k_is)
    (case q16_c => k_is)
    (case q16_k => k_is)
    refine' K34.go_on (K34.at_mk K34.bConcerns KX G ?q17_a ?q17_l ?q17_c ?q17_k) (fun AConcerns => ?q17_nx)
    (case q17_a => k_is)
    (case q17_l => k_is)
    (case q17_c => k_is)
    (case q17_k => k_is)
    refine' K34.go_on (K34.at_mk K34.bLook KX G ?q18_a ?q18_l ?q18_c ?q18_k) (fun ALook => ?q18_nx)
    (case q18_a => k_is)
    (case q18_l => k_is)
    (case q18_c => k_is)
    (case q18_k => k_is)
    refine' K34.go_on (K34.at_mk K34.bMustAct KX G ?q19_a ?q19_l ?q19_c ?q19_k) (fun AMustAct => ?q19_nx)
    (case q19_a => k_is)
    (case q19_l => k_is)
    (case q19_c => k_is)
    (case q19_k => k_is)
    refine' K34.go_on (K34.at_mk K34.bAgree KX G ?q20_a ?q20_l ?q20_c ?q20_k) (fun AAgree => ?q20_nx)
    (case q20_a => k_is)
    (case q20_l => k_is)
    (case q20_c => k_is)
    (case q20_k => k_is)
    refine' K34.go_on (K34.at_mk K34.bPairSteps KX G ?q21_a ?q21_l ?q21_c ?q21_k) (fun APairSteps => ?q21_nx)
    (case q21_a => k_is)
    (case q21_l => k_is)
    (case q21_c => k_is)
    (case q21_k => k_is)
    refine' K34.go_on (K34.at_mk K34.bTraceBack KX G ?q22_a ?q22_l ?q22_c ?q22_k) (fun ATraceBack => ?q22_nx)
    (case q22_a => k_is)
    (case q22_l => k_is)
    (case q22_c => k_is)
    (case q22_k => k_is)
    refine' K34.go_on (K34.at_mk K34.bWitnessFor KX G ?q23_a ?q23_l ?q23_c ?q23_k) (fun AWitnessFor => ?q23_nx)
    (case q23_a => k_is)
    (case q23_l => k_is)
    (case q23_c => k_is)
    (case q23_k => k_is)
    refine' K34.go_on (K34.at_mk K34.bWitness KX G ?q24_a ?q24_l ?q24_c ?q24_k) (fun AWitness => ?q24_nx)
    (case q24_a => k_is)
    (case q24_l => k_is)
    (case q24_c => k_is)
    (case q24_k => k_is)
    refine' K34.go_on (K34.at_mk K34.bPlayedStatement KX G ?q25_a ?q25_l ?q25_c ?q25_k) (fun APlayedStatement => ?q25_nx)
    (case q25_a => k_is)
    (case q25_l => k_is)
    (case q25_c => k_is)
    (case q25_k => k_is)
    refine' K34.go_on (K34.at_mk K34.bPlayedBlock KX G ?q26_a ?q26_l ?q26_c ?q26_k) (fun APlayedBlock => ?q26_nx)
    (case q26_a => k_is)
    (case q26_l => k_is)
    (case q26_c => k_is)
    (case q26_k => k_is)
    refine' K34.go_on (K34.at_mk K34.bPlayedOut KX G ?q27_a ?q27_l ?q27_c ?q27_k) (fun APlayedOut => ?q27_nx)
    (case q27_a => k_is)
    (case q27_l => k_is)
    (case q27_c => k_is)
    (case q27_k => k_is)
    refine' K34.go_on (K34.at_mk K34.bSizeOf KX G ?q28_a ?q28_l ?q28_c ?q28_k) (fun ASizeOf => ?q28_nx)
    (case q28_a => k_is)
    (case q28_l => k_is)
    (case q28_c => k_is)
    (case q28_k => k_is)
    refine' K34.go_on (K34.at_mk K34.bLayOut KX G ?q29_a ?q29_l ?q29_c ?q29_k) (fun ALayOut => ?q29_nx)
    (case q29_a => k_is)
    (case q29_l => k_is)
    (case q29_c => k_is)
    (case q29_k => k_is)
    refine' K34.go_on (K34.at_mk K34.bLawTape KX G ?q30_a ?q30_l ?q30_c ?q30_k) (fun ALawTape => ?q30_nx)
    (case q30_a => k_is)
    (case q30_l => k_is)
    (case q30_c => k_is)
    (case q30_k => k_is)
    refine' K34.go_on (K34.at_mk K34.bLawTake KX G ?q31_a ?q31_l ?q31_c ?q31_k) (fun ALawTake => ?q31_nx)
    (case q31_a => k_is)
    (case q31_l => k_is)
    (case q31_c => k_is)
    (case q31_k => k_is)
    refine' K34.go_on (K34.at_mk K34.bLawIsInteger KX G ?q32_a ?q32_l ?q32_c ?q32_k) (fun ALawIsInteger => ?q32_nx)
    (case q32_a => k_is)
    (case q32_l => k_is)
    (case q32_c => k_is)
    (case q32_k => k_is)
    refine' K34.go_on (K34.at_mk K34.bLawSameItems KX G ?q33_a ?q33_l ?q33_c ?q33_k) (fun ALawSameItems => ?q33_nx)
    (case q33_a => k_is)
    (case q33_l => k_is)
    (case q33_c => k_is)
    (case q33_k => k_is)
    refine' K34.go_on (K34.at_mk K34.bLawSame KX G ?q34_a ?q34_l ?q34_c ?q34_k) (fun ALawSame => ?q34_nx)
    (case q34_a => k_is)
    (case q34_l => k_is)
    (case q34_c => k_is)
    (case q34_k => k_is)
    refine' K34.go_on (K34.at_mk K34.bLawNumber KX G ?q35_a ?q35_l ?q35_c ?q35_k) (fun ALawNumber => ?q35_nx)
    (case q35_a => k_is)
    (case q35_l => k_is)
    (case q35_c => k_is)
    (case q35_k => k_is)
    refine' K34.go_on (K34.at_mk K34.bLawValue KX G ?q36_a ?q36_l ?q36_c ?q36_k) (fun ALawValue => ?q36_nx)
    (case q36_a => k_is)
    (case q36_l => k_is)
    (case q36_c => k_is)
    (case q36_k => k_is)
    refine' K34.go_on (K34.at_mk K34.bLawTwo KX G ?q37_a ?q37_l ?q37_c ?q37_k) (fun ALawTwo => ?q37_nx)
    (case q37_a => k_is)
    (case q37_l => k_is)
    (case q37_c => k_is)
    (case q37_k => k_is)
    refine' K34.go_on (K34.at_mk K34.bLawStatement KX G ?q38_a ?q38_l ?q38_c ?q38_k) (fun ALawStatement => ?q38_nx)
    (case q38_a => k_is)
    (case q38_l => k_is)
    (case q38_c => k_is)
    (case q38_k => k_is)
    refine' K34.go_on (K34.at_mk K34.bLawBlock KX G ?q39_a ?q39_l ?q39_c ?q39_k) (fun ALawBlock => ?q39_nx)
    (case q39_a => k_is)
    (case q39_l => k_is)
    (case q39_c => k_is)
    (case q39_k => k_is)
    refine' K34.go_on (K34.at_mk K34.bLawTree KX G ?q40_a ?q40_l ?q40_c ?q40_k) (fun ALawTree => ?q40_nx)
    (case q40_a => k_is)
    (case q40_l => k_is)
    (case q40_c => k_is)
    (case q40_k => k_is)
    refine' K34.go_on (K34.at_mk K34.bLawAll KX G ?q41_a ?q41_l ?q41_c ?q41_k) (fun ALawAll => ?q41_nx)
    (case q41_a => k_is)
    (case q41_l => k_is)
    (case q41_c => k_is)
    (case q41_k => k_is)
    refine' K34.go_on (K34.at_mk K34.bLawPlayed KX G ?q42_a ?q42_l ?q42_c ?q42_k) (fun ALawPlayed => ?q42_nx)
    (case q42_a => k_is)
    (case q42_l => k_is)
    (case q42_c => k_is)
    (case q42_k => k_is)
    refine' K34.go_on (K34.at_mk K34.bLawPlay KX G ?q43_a ?q43_l ?q43_c ?q43_k) (fun ALawPlay => ?q43_nx)
    (case q43_a => k_is)
    (case q43_l => k_is)
    (case q43_c => k_is)
    (case q43_k => k_is)
    refine' K34.go_on (K34.at_mk K34.bLawTell KX G ?q44_a ?q44_l ?q44_c ?q44_k) (fun ALawTell => ?q44_nx)
    (case q44_a => k_is)
    (case q44_l => k_is)
    (case q44_c => k_is)
    (case q44_k => k_is)
    refine' K34.go_on (K34.at_mk K34.bLawClearTree KX G ?q45_a ?q45_l ?q45_c ?q45_k) (fun ALawClearTree => ?q45_nx)
    (case q45_a => k_is)
    (case q45_l => k_is)
    (case q45_c => k_is)
    (case q45_k => k_is)
    refine' K34.go_on (K34.at_mk K34.bLawInputs KX G ?q46_a ?q46_l ?q46_c ?q46_k) (fun ALawInputs => ?q46_nx)
    (case q46_a => k_is)
    (case q46_l => k_is)
    (case q46_c => k_is)
    (case q46_k => k_is)
    refine' K34.go_on (K34.at_mk K34.bLawCount KX G ?q47_a ?q47_l ?q47_c ?q47_k) (fun ALawCount => ?q47_nx)
    (case q47_a => k_is)
    (case q47_l => k_is)
    (case q47_c => k_is)
    (case q47_k => k_is)
    refine' K34.go_on (K34.at_mk K34.bLawNum KX G ?q48_a ?q48_l ?q48_c ?q48_k) (fun ALawNum => ?q48_nx)
    (case q48_a => k_is)
    (case q48_l => k_is)
    (case q48_c => k_is)
    (case q48_k => k_is)
    refine' K34.go_on (K34.at_mk K34.bLawPlain KX G ?q49_a ?q49_l ?q49_c ?q49_k) (fun ALawPlain => ?q49_nx)
    (case q49_a => k_is)
    (case q49_l => k_is)
    (case q49_c => k_is)
    (case q49_k => k_is)
    refine' K34.go_on (K34.at_mk K34.bLawRun KX G ?q50_a ?q50_l ?q50_c ?q50_k) (fun ALawRun => ?q50_nx)
    (case q50_a => k_is)
    (case q50_l => k_is)
    (case q50_c => k_is)
    (case q50_k => k_is)
    refine' K34.go_on (K34.at_mk K34.bLawEnds KX G ?q51_a ?q51_l ?q51_c ?q51_k) (fun ALawEnds => ?q51_nx)
    (case q51_a => k_is)
    (case q51_l => k_is)
    (case q51_c => k_is)
    (case q51_k => k_is)
    refine' K34.go_on (K34.at_mk K34.bLawPaths KX G ?q52_a ?q52_l ?q52_c ?q52_k) (fun ALawPaths => ?q52_nx)
    (case q52_a => k_is)
    (case q52_l => k_is)
    (case q52_c => k_is)
    (case q52_k => k_is)
    refine' K34.go_on (K34.at_mk K34.bLawBlockAt KX G ?q53_a ?q53_l ?q53_c ?q53_k) (fun ALawBlockAt => ?q53_nx)
    (case q53_a => k_is)
    (case q53_l => k_is)
    (case q53_c => k_is)
    (case q53_k => k_is)
    refine' K34.go_on (K34.at_mk K34.bLawWith KX G ?q54_a ?q54_l ?q54_c ?q54_k) (fun ALawWith => ?q54_nx)
    (case q54_a => k_is)
    (case q54_l => k_is)
    (case q54_c => k_is)
    (case q54_k => k_is)
    refine' K34.go_on (K34.at_mk K34.bLawBare KX G ?q55_a ?q55_l ?q55_c ?q55_k) (fun ALawBare => ?q55_nx)
    (case q55_a => k_is)
    (case q55_l => k_is)
    (case q55_c => k_is)
    (case q55_k => k_is)
    refine' K34.go_on (K34.Ats.mk AHasDoubles ANeed AInnerBlocks AAllStatements ACheckStatement APartsInOrder AMeasure ACheckTree AEndsIn AMayFollow AInnerBlock AMayExchange AExchangedIn AExchanged AAnswers AAfter AConcerns ALook AMustAct AAgree APairSteps ATraceBack AWitnessFor AWitness APlayedStatement APlayedBlock APlayedOut ASizeOf ALayOut ALawTape ALawTake ALawIsInteger ALawSameItems ALawSame ALawNumber ALawValue ALawTwo ALawStatement ALawBlock ALawTree ALawAll ALawPlayed ALawPlay ALawTell ALawClearTree ALawInputs ALawCount ALawNum ALawPlain ALawRun ALawEnds ALawPaths ALawBlockAt ALawWith ALawBare ) (fun Z => ?q56_nx)
    clear AHasDoubles ANeed AInnerBlocks AAllStatements ACheckStatement APartsInOrder AMeasure ACheckTree AEndsIn AMayFollow AInnerBlock AMayExchange AExchangedIn AExchanged AAnswers AAfter AConcerns ALook AMustAct AAgree APairSteps ATraceBack AWitnessFor AWitness APlayedStatement APlayedBlock APlayedOut ASizeOf ALayOut ALawTape ALawTake ALawIsInteger ALawSameItems ALawSame ALawNumber ALawValue ALawTwo ALawStatement ALawBlock ALawTree ALawAll ALawPlayed ALawPlay ALawTell ALawClearTree ALawInputs ALawCount ALawNum ALawPlain ALawRun ALawEnds ALawPaths ALawBlockAt ALawWith ALawBare
    refine' K34.go_on (K34.tx_mk KX G ?q57_z0 ?q57_z1 ?q57_z2 ?q57_z3 ?q57_z4 ?q57_z5 ?q57_z6 ?q57_z7 ?q57_z8 ?q57_z9 ?q57_z10 ?q57_z11 ?q57_z12 ?q57_z13 ?q57_z14 ?q57_z15 ?q57_me ?q57_ml ?q57_ms ?q57_br ?q57_bl) (fun T => ?q57_nx)
    (case q57_z0 => k_is)
    (case q57_z1 => k_is)
    (case q57_z2 => k_is)
    (case q57_z3 => k_is)
    (case q57_z4 => k_is)
    (case q57_z5 => k_is)
    (case q57_z6 => k_is)
    (case q57_z7 => k_is)
    (case q57_z8 => k_is)
    (case q57_z9 => k_is)
    (case q57_z10 => k_is)
    (case q57_z11 => k_is)
    (case q57_z12 => k_is)
    (case q57_z13 => k_is)
    (case q57_z14 => k_is)
    (case q57_z15 => k_is)
    (case q57_me => k_is)
    (case q57_ml => k_is)
    (case q57_ms => k_is)
    (case q57_br => k_is)
    (case q57_bl => k_is)
    refine' K34.go_on (K34.ex_mk KX G ?q58_gc ?q58_cl ?q58_bo ?q58_sa ?q58_ex ?q58_ty ?q58_kp ?q58_ic ?q58_ti ?q58_no ?q58_ga ?q58_gg ?q58_hd ?q58_icl ?q58_su ?q58_l ?q58_c ?q58_k) (fun XX => ?q58_nx)
    (case q58_gc => k_is)
    (case q58_cl => k_is)
    (case q58_bo => decide +kernel)
    (case q58_sa => k_is)
    (case q58_ex => k_is)
    (case q58_ty => k_is)
    (case q58_kp => k_is)
    (case q58_ic => k_is)
    (case q58_ti => k_is)
    (case q58_no => k_is)
    (case q58_ga => k_is)
    (case q58_gg => k_is)
    (case q58_hd => k_is)
    (case q58_icl => k_is)
    (case q58_su => first | rfl | k_is)
    (case q58_l => k_is)
    (case q58_c => k_is)
    (case q58_k => k_is)
    refine' K34.go_on (K34.sc_mk KX G ?q59_gc ?q59_mk ?q59_ic ?q59_fn ?q59_kp ?q59_pg ?q59_hd ?q59_po ?q59_sa ?q59_n1 ?q59_n2 ?q59_n3 ?q59_n4 ?q59_l ?q59_c ?q59_k) (fun SS => ?q59_nx)
    (case q59_gc => k_is)
    (case q59_mk => k_is)
    (case q59_ic => k_is)
    (case q59_fn => k_is)
    (case q59_kp => k_is)
    (case q59_pg => k_is)
    (case q59_hd => k_is)
    (case q59_po => k_is)
    (case q59_sa => k_is)
    (case q59_n1 => k_is)
    (case q59_n2 => k_is)
    (case q59_n3 => k_is)
    (case q59_n4 => k_is)
    (case q59_l => k_is)
    (case q59_c => k_is)
    (case q59_k => k_is)
    refine' K34.go_on (K34.law_mk KX G hmg ?q60_a ?q60_l ?q60_c ?q60_k) (fun LL => ?q60_nx)
    (case q60_a => k_is)
    (case q60_l => k_is)
    (case q60_c => k_is)
    (case q60_k => k_is)
    obtain ⟨Ex, XF, te, AI⟩ := XX
    obtain ⟨SG, MK, SC, AS⟩ := SS
    obtain ⟨fd, F, hb⟩ := LL
    exact ⟨fd, hb, fun base _ _ => K34.ok_whole Ex XF te MK SG SC T Z AI AS F⟩
