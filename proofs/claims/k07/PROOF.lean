import PyProof.Rows.All
import Wide.All
import OpenK.AllK
import Wide.FinOn
import HandS.ForMost
import HandS.IsInst
import HandS.Wide
import HandS.NoneIn
import HandS.Style
import HandS.More
import HandS.Codes
import PySem.Challenge.RW_handedtext_k07_whole_mirrors_and_forms
set_option Elab.async false
set_option linter.all false
set_option maxRecDepth 100000
set_option maxHeartbeats 4000000
/-! Sides in plain Lean: what a side writes, its mirror, its form. No program in sight. -/
namespace K7
inductive Md where
  | dn | up | hd | hu | he
  deriving DecidableEq
namespace Md
def ix : Md → Nat
  | dn => 0 | up => 1 | hd => 2 | hu => 3 | he => 4
def mir : Md → Md
  | dn => up | up => dn | hd => hu | hu => hd | he => he
theorem mir_mir (m : Md) : m.mir.mir = m := by cases m <;> rfl
end Md
/-- the least value that comes to the figure k -/
def thr (o s : Int) (m : Md) (k : Int) : Int :=
  if m = .dn then o + s * k else if m = .up then o + s * k - s + 1
  else if m = .hu ∨ (m = .he ∧ k % 2 = 0) then o + s * k - s / 2 else o + s * k - (s - 1) / 2
def figF (o s : Int) (m : Md) (v : Int) : Int := if thr o s m ((v - o) / s + 1) ≤ v then (v - o) / s + 1 else (v - o) / s
/-- the law's own figure, from the floor and the rest -/
def figR (s : Int) (m : Md) (q r : Int) : Int :=
  if m = .dn ∨ r = 0 then q else if m = .up ∨ s < 2 * r then q + 1 else if 2 * r < s ∨ m = .hd then q
  else if m = .hu ∨ q % 2 = 1 then q + 1 else q
def figL (o s : Int) (m : Md) (v : Int) : Int := figR s m ((v - o) / s) (v - o - s * ((v - o) / s))
def hnd (o s : Int) (m : Md) (v : Int) : Int := o + s * figL o s m v

theorem rest_bounds (n s : Int) (hs : 1 ≤ s) : 0 ≤ n - s * (n / s) ∧ n - s * (n / s) < s := by
  have h1 := Int.emod_nonneg n (show s ≠ 0 by omega)
  have h2 := Int.emod_lt_of_pos n (show 0 < s by omega)
  have h3 := Int.mul_ediv_add_emod n s
  omega
theorem div_unique {n s q r : Int} (hs : 1 ≤ s) (e : n = s * q + r) (h0 : 0 ≤ r) (h1 : r < s) : n / s = q := by
  subst e
  rw [Int.add_comm, Int.add_mul_ediv_left _ _ (by omega : s ≠ 0), Int.ediv_eq_zero_of_lt h0 h1]
  omega
theorem fig_eq (o s : Int) (m : Md) (v : Int) (hs : 1 ≤ s) : figF o s m v = figL o s m v := by
  have hb := rest_bounds (v - o) s hs
  unfold figF figL figR thr
  have hm : s * ((v - o) / s + 1) = s * ((v - o) / s) + s := by rw [Int.mul_add, Int.mul_one]
  rw [hm]
  generalize hq : (v - o) / s = q at *
  generalize hp : s * q = p at *
  cases m <;> simp <;> (repeat' split) <;> omega
/-- the figure from any floor and rest -/
theorem figL_of {o s : Int} {m : Md} {v q r : Int} (hs : 1 ≤ s) (e : v - o = s * q + r) (h0 : 0 ≤ r) (h1 : r < s) : figL o s m v = figR s m q r := by
  unfold figL
  have hq := div_unique hs e h0 h1
  rw [hq]
  have : v - o - s * q = r := by omega
  rw [this]
theorem floor_rest (o s v : Int) (hs : 1 ≤ s) : ∃ q r, v - o = s * q + r ∧ 0 ≤ r ∧ r < s := by
  have hb := rest_bounds (v - o) s hs
  exact ⟨(v - o) / s, v - o - s * ((v - o) / s), by omega, hb.1, hb.2⟩
/-! ### the mirror -/
theorem mirror_fig (o s : Int) (m : Md) (v : Int) (hs : 1 ≤ s) : figL (-o) s m.mir (-v) = - figL o s m v := by
  obtain ⟨q, r, e, h0, h1⟩ := floor_rest o s v hs
  rw [figL_of hs e h0 h1]
  by_cases hr : r = 0
  · have e2 : -v - -o = s * (-q) + 0 := by
      rw [Int.mul_neg]
      omega
    rw [figL_of hs e2 (by omega) (by omega)]
    subst hr
    unfold figR
    simp
  · have e2 : -v - -o = s * (-q - 1) + (s - r) := by
      rw [Int.mul_sub, Int.mul_neg, Int.mul_one]
      omega
    rw [figL_of hs e2 (by omega) (by omega)]
    unfold figR
    cases m <;> simp [Md.mir, hr] <;> (repeat' split) <;> omega
theorem mirror_hnd (o s : Int) (m : Md) (v : Int) (hs : 1 ≤ s) : hnd (-o) s m.mir (-v) = - hnd o s m v := by
  unfold hnd
  rw [mirror_fig o s m v hs, Int.mul_neg]
  omega
/-! ### the form -/
def lead (s : Int) (m : Md) : Int := if m = .dn then 0 else if m = .up then s - 1 else if m = .hd then (s - 1) / 2 else s / 2
def four : List Md := [.dn, .up, .hd, .hu]
def fM (s : Int) (m : Md) : Md :=
  if m = .he ∧ s % 2 = 0 then .he
  else if 0 = lead s m then .dn else if s - 1 = lead s m then .up else if (s - 1) / 2 = lead s m then .hd else .hu
def fO (o s : Int) (m : Md) : Int := if m = .he ∧ s % 2 = 0 then o % (2 * s) else o % s
/-- the modes that lead as far -/
def known (s : Int) (m : Md) : List Md := four.filter fun x => lead s x = lead s m
theorem known_head (s : Int) (m : Md) (hs : 1 ≤ s) (h : ¬ (m = .he ∧ s % 2 = 0)) : ∃ r, known s m = fM s m :: r := by
  have hd : lead s .dn = 0 := rfl
  have hu : lead s .up = s - 1 := rfl
  have hh : lead s .hd = (s - 1) / 2 := rfl
  have h4 : lead s .hu = s / 2 := rfl
  unfold known four fM
  rw [if_neg h]
  simp only [List.filter_cons, List.filter_nil, hd, hu, hh, h4, decide_eq_true_eq]
  by_cases c1 : 0 = lead s m
  · rw [if_pos c1, if_pos c1]
    exact ⟨_, rfl⟩
  · rw [if_neg c1, if_neg c1]
    by_cases c2 : s - 1 = lead s m
    · rw [if_pos c2, if_pos c2]
      exact ⟨_, rfl⟩
    · rw [if_neg c2, if_neg c2]
      by_cases c3 : (s - 1) / 2 = lead s m
      · rw [if_pos c3, if_pos c3]
        exact ⟨_, rfl⟩
      · rw [if_neg c3, if_neg c3]
        have c4 : s / 2 = lead s m := by
          cases m <;> simp [lead] at c1 c2 c3 ⊢
        rw [if_pos c4]
        exact ⟨_, rfl⟩
/-- which mode it is, by the step -/
theorem fM_cases (s : Int) (m : Md) (hs : 1 ≤ s) : fM s m = if m = .he ∧ s % 2 = 0 then .he else if s = 1 then .dn else if s = 2 then (if m = .dn ∨ m = .hd then .dn else .up)
    else if s % 2 = 1 ∧ (m = .hu ∨ m = .he ∨ m = .hd) then .hd else m := by
  unfold fM lead
  cases m <;> simp <;> (repeat' split) <;> first | rfl | omega | (exfalso; omega)
theorem fM_ix (s : Int) (m : Md) (hs : 1 ≤ s) : (fM s m).ix ≤ m.ix := by
  rw [fM_cases s m hs]
  cases m <;> simp <;> (repeat' split) <;> decide
theorem fM_he (s : Int) (m : Md) (hs : 1 ≤ s) : fM s m = .he ↔ (m = .he ∧ s % 2 = 0) := by
  rw [fM_cases s m hs]
  cases m <;> simp <;> (repeat' split) <;> simp_all <;> omega
theorem fM_idem (s : Int) (m : Md) (hs : 1 ≤ s) : fM s (fM s m) = fM s m := by
  rw [fM_cases s m hs]
  cases m <;> simp <;> (repeat' split) <;> (rw [fM_cases _ _ hs]) <;> simp <;> (repeat' split) <;> first | rfl | omega | simp_all
theorem fO_idem (o s : Int) (m : Md) (hs : 1 ≤ s) : fO (fO o s m) s (fM s m) = fO o s m := by
  by_cases c : m = .he ∧ s % 2 = 0
  · have e := (fM_he s m hs).mpr c
    unfold fO
    rw [e, if_pos c, if_pos ⟨rfl, c.2⟩]
    exact Int.emod_emod_of_dvd _ (Int.dvd_refl _)
  · have e : ¬ fM s m = .he := fun z => c ((fM_he s m hs).mp z)
    unfold fO
    rw [if_neg c, if_neg (fun z => e z.1)]
    exact Int.emod_emod_of_dvd _ (Int.dvd_refl _)
theorem fO_bounds (o s : Int) (m : Md) (hs : 1 ≤ s) : 0 ≤ fO o s m ∧ fO o s m < s * (1 + if fM s m = .he then 1 else 0) := by
  by_cases c : m = .he ∧ s % 2 = 0
  · have e := (fM_he s m hs).mpr c
    unfold fO
    rw [e, if_pos c, if_pos rfl]
    have h1 := Int.emod_nonneg o (show 2 * s ≠ 0 by omega)
    have h2 := Int.emod_lt_of_pos o (show 0 < 2 * s by omega)
    omega
  · have e : ¬ fM s m = .he := fun z => c ((fM_he s m hs).mp z)
    unfold fO
    rw [if_neg c, if_neg e]
    have h1 := Int.emod_nonneg o (show s ≠ 0 by omega)
    have h2 := Int.emod_lt_of_pos o (show 0 < s by omega)
    omega
/-- the mode told for greater steps -/
theorem fM_great (s : Int) (m : Md) (hs : 2 < s) : fM s m = if s % 2 = 1 ∧ (m = .hu ∨ m = .he ∨ m = .hd) then .hd else m := by
  rw [fM_cases s m (by omega)]
  cases m <;> simp <;> (repeat' split) <;> first | rfl | omega | simp_all
/-- a side whole periods apart -/
theorem fO_shift (o s : Int) (m : Md) (k : Int) (hs : 1 ≤ s) : fO (o - s * (1 + if m = .he then 1 else 0) * k) s m = fO o s m := by
  unfold fO
  by_cases c : m = .he
  · rw [if_pos c]
    have e : o - s * (1 + 1) * k = o + (2 * s) * (-k) := by
      rw [Int.mul_neg, show s * (1 + 1) = 2 * s by omega]
      omega
    rw [e]
    have e3 : o + 2 * s * -k = o + s * (2 * -k) := by
      rw [← Int.mul_assoc, Int.mul_comm s 2]
    by_cases c2 : m = .he ∧ s % 2 = 0
    · rw [if_pos c2, if_pos c2, Int.add_mul_emod_self_left]
    · rw [if_neg c2, if_neg c2, e3, Int.add_mul_emod_self_left]
  · rw [if_neg c]
    have e : o - s * (1 + 0) * k = o + s * (-k) := by
      rw [Int.mul_neg, show s * (1 + 0) = s by omega]
      omega
    rw [e, if_neg (fun z => c z.1), if_neg (fun z => c z.1), Int.add_mul_emod_self_left]
/-- the form's figure lies a whole number of periods behind -/
theorem figR_form (s : Int) (m : Md) (q r t : Int) (hs : 1 ≤ s) (h0 : 0 ≤ r) (h1 : r < s) (ht : (m = .he ∧ s % 2 = 0) → t % 2 = 0) : figR s (fM s m) (q + t) r = figR s m q r + t := by
  rw [fM_cases s m hs]
  by_cases c : m = .he ∧ s % 2 = 0
  · rw [if_pos c]
    obtain ⟨rfl, c2⟩ := c
    have t2 := ht ⟨rfl, c2⟩
    unfold figR
    simp
    (repeat' split) <;> omega
  · rw [if_neg c]
    unfold figR
    cases m <;> simp at c ⊢ <;> (repeat' split) <;> simp_all <;> omega
theorem form_hnd (o s : Int) (m : Md) (v : Int) (hs : 1 ≤ s) : hnd (fO o s m) s (fM s m) v = hnd o s m v := by
  obtain ⟨q, r, e, h0, h1⟩ := floor_rest o s v hs
  have key : ∃ t, o = fO o s m + s * t ∧ ((m = .he ∧ s % 2 = 0) → t % 2 = 0) := by
    unfold fO
    by_cases c : m = .he ∧ s % 2 = 0
    · rw [if_pos c]
      refine ⟨2 * (o / (2 * s)), ?_, fun _ => by omega⟩
      have h3 := Int.mul_ediv_add_emod o (2 * s)
      rw [← Int.mul_assoc, Int.mul_comm s 2]
      omega
    · rw [if_neg c]
      refine ⟨o / s, ?_, fun z => absurd z c⟩
      have h3 := Int.mul_ediv_add_emod o s
      omega
  obtain ⟨t, ho, ht⟩ := key
  have e2 : v - fO o s m = s * (q + t) + r := by
    rw [Int.mul_add]
    omega
  unfold hnd
  rw [figL_of hs e h0 h1, figL_of hs e2 h0 h1, figR_form s m q r t hs h0 h1 ht, Int.mul_add]
  omega
end K7
/-! Forms of small sides: alike in a window of 24 values, then equal. -/
namespace K7
theorem four_ix : ∀ (i : Nat) (μ : Md), four[i]? = some μ → μ.ix = i ∧ μ ≠ .he := by
  intro i μ h
  have hi : i < 4 := (List.getElem?_eq_some_iff.mp h).1
  have : i = 0 ∨ i = 1 ∨ i = 2 ∨ i = 3 := by omega
  rcases this with rfl | rfl | rfl | rfl <;> cases h <;> exact ⟨rfl, by decide⟩
theorem four_at (μ : Md) (h : μ ≠ .he) : four[μ.ix]? = some μ := by cases μ <;> first | rfl | exact absurd rfl h
theorem ix_inj {a b : Md} (h : a.ix = b.ix) : a = b := by cases a <;> cases b <;> first | rfl | exact absurd h (by decide)
theorem fO_same {o s : Int} {m ν : Md} (hs : 1 ≤ s) (hν : ν ≠ .he) (h : fM s m = ν) : fO o s ν = fO o s m := by
  have c : ¬ (m = .he ∧ s % 2 = 0) := fun z => hν (h.symm.trans ((fM_he s m hs).mpr z))
  unfold fO
  rw [if_neg c, if_neg (fun z => hν z.1)]
theorem first_hit {o s : Int} {m μ : Md} {i : Nat} (hs : 1 ≤ s) (hμ : four[i]? = some μ) (ha : fM s μ = fM s m)
    (hn : ∀ k x, k < i → four[k]? = some x → ¬ (fO o s x = fO o s m ∧ fM s x = fM s m)) : μ = fM s m := by
  obtain ⟨e, n⟩ := four_ix i μ hμ
  have nh : fM s μ ≠ .he := fun z => n ((fM_he s μ hs).mp z).1
  rw [ha] at nh
  have l : (fM s m).ix ≤ i := by
    have := fM_ix s μ hs
    rw [ha, e] at this
    exact this
  by_cases c : (fM s m).ix = i
  · exact ix_inj (e.trans c.symm)
  · exact absurd ⟨fO_same hs nh rfl, fM_idem s m hs⟩ (hn (fM s m).ix (fM s m) (by omega) (four_at _ nh))
theorem first_none {o s : Int} {m : Md} (hs : 1 ≤ s) (hn : ∀ k x, k < 4 → four[k]? = some x → ¬ (fO o s x = fO o s m ∧ fM s x = fM s m)) : fM s m = .he := by
  by_cases c : fM s m = .he
  · exact c
  · exact absurd ⟨fO_same hs c rfl, fM_idem s m hs⟩ (hn (fM s m).ix (fM s m) (List.getElem?_eq_some_iff.mp (four_at _ c)).1 (four_at _ c))
def fiveM : List Md := [.dn, .up, .hd, .hu, .he]
/-- o is an offset of a form -/
def canon (s o : Nat) (m : Md) : Bool := decide (fM s m = m) && decide (o < s * (if m = .he then 2 else 1))
def chk : Bool := [1, 2, 3, 4, 5, 6].all fun s : Nat => (List.range 12).all fun o1 => fiveM.all fun m1 => !canon s o1 m1 || (List.range 12).all fun o2 => fiveM.all fun m2 => !canon s o2 m2 ||
  (!(List.range 24).all (fun v => decide (hnd o1 s m1 v = hnd o2 s m2 v)) || decide (o1 = o2 ∧ m1 = m2))
theorem chk_true : chk = true := by decide +kernel
theorem mem_five (m : Md) : m ∈ fiveM := by cases m <;> decide
theorem small_of {s o1 o2 : Nat} {m1 m2 : Md} (hs : 1 ≤ s) (h6 : s ≤ 6) (h1 : o1 < 12) (h2 : o2 < 12) (c1 : canon s o1 m1 = true) (c2 : canon s o2 m2 = true) (h : ∀ v : Nat, v < 24 → hnd o1 s m1 v = hnd o2 s m2 v) : o1 = o2 ∧ m1 = m2 := by
  have k := chk_true
  unfold chk at k
  have ms : s ∈ [1, 2, 3, 4, 5, 6] := by
    have : s = 1 ∨ s = 2 ∨ s = 3 ∨ s = 4 ∨ s = 5 ∨ s = 6 := by omega
    rcases this with rfl | rfl | rfl | rfl | rfl | rfl <;> decide
  have k1 := List.all_eq_true.mp k s ms
  have k2 := List.all_eq_true.mp k1 o1 (List.mem_range.mpr h1)
  have k3 := List.all_eq_true.mp k2 m1 (mem_five m1)
  rw [c1, Bool.not_true, Bool.false_or] at k3
  have k4 := List.all_eq_true.mp k3 o2 (List.mem_range.mpr h2)
  have k5 := List.all_eq_true.mp k4 m2 (mem_five m2)
  rw [c2, Bool.not_true, Bool.false_or] at k5
  have hall : (List.range 24).all (fun v => decide (hnd o1 s m1 v = hnd o2 s m2 v)) = true := List.all_eq_true.mpr fun v hv => decide_eq_true (h v (List.mem_range.mp hv))
  rw [hall, Bool.not_true, Bool.false_or] at k5
  exact of_decide_eq_true k5
theorem alike_form {o s o' : Int} {m m' : Md} (hs : 1 ≤ s) (h6 : s ≤ 6) {n : Nat} (hn : 24 ≤ n) : (∀ v : Nat, v < n → hnd o s m v = hnd o' s m' v) ↔ (fO o s m = fO o' s m' ∧ fM s m = fM s m') := by
  constructor
  · intro h
    have b1 := fO_bounds o s m hs
    have b2 := fO_bounds o' s m' hs
    obtain ⟨S, rfl⟩ : ∃ S : Nat, s = (S : Int) := ⟨s.toNat, by omega⟩
    obtain ⟨a, ha⟩ : ∃ a : Nat, fO o S m = (a : Int) := ⟨(fO o S m).toNat, by omega⟩
    obtain ⟨b, hb⟩ : ∃ b : Nat, fO o' S m' = (b : Int) := ⟨(fO o' S m').toNat, by omega⟩
    have cn : ∀ (c : Nat) (μ : Md), (c : Int) < S * (1 + if fM S μ = .he then 1 else 0) → canon S c (fM S μ) = true ∧ c < 12 := fun c μ hc => by
      unfold canon
      rw [decide_eq_true (fM_idem S μ hs), Bool.true_and]
      by_cases e : fM S μ = .he
      · rw [if_pos e] at hc
        rw [if_pos e]
        exact ⟨decide_eq_true (by omega), by omega⟩
      · rw [if_neg e] at hc
        rw [if_neg e]
        exact ⟨decide_eq_true (by omega), by omega⟩
    rw [ha] at b1
    rw [hb] at b2
    have c1 := cn a m b1.2
    have c2 := cn b m' b2.2
    have r := small_of (s := S) (by omega) (by omega) c1.2 c2.2 c1.1 c2.1 fun v hv => by
      rw [← ha, ← hb, form_hnd o S m v hs, form_hnd o' S m' v hs]
      exact h v (by omega)
    rw [ha, hb, r.1]
    exact ⟨rfl, r.2⟩
  · intro h v _
    rw [← form_hnd o s m v hs, ← form_hnd o' s m' v hs, h.1, h.2]
end K7
namespace K7
open PySem PySem.Spec PyProof.Rows L2
/-! ### the text by places -/
def topS (i : Nat) : Stmt := PySem.Challenge.pw_handedtext_k07_whole_mirrors_and_forms.main.body.getD i (.Pass ⟨0, 0, 0, 0⟩)
abbrev sIsInt : Stmt := topS 9
abbrev sIsSide : Stmt := topS 10
abbrev sCkSide : Stmt := topS 11
abbrev sCkVal : Stmt := topS 12
abbrev sThr : Stmt := topS 13
abbrev sFigF : Stmt := topS 14
abbrev sHTo : Stmt := topS 15
abbrev sHanded : Stmt := topS 16
abbrev sMird : Stmt := topS 17
abbrev sMirror : Stmt := topS 18
abbrev sLead : Stmt := topS 19
abbrev sFormed : Stmt := topS 20
abbrev sForm : Stmt := topS 21
abbrev sSrc : Stmt := topS 23
abbrev sDraw : Stmt := topS 24
abbrev sPick : Stmt := topS 25
abbrev sGreat : Stmt := topS 26
abbrev sSide : Stmt := topS 27
abbrev sFigL : Stmt := topS 28
abbrev sHndL : Stmt := topS 29
abbrev sMF : Stmt := topS 30
abbrev sFF : Stmt := topS 31
abbrev sFst : Stmt := topS 32
abbrev sSF : Stmt := topS 33
abbrev sLaw : Stmt := topS 34
theorem scIsInt : FnScope ["value"] ["value"] (defScope sIsInt) := ⟨rfl, rfl, rfl, by decide +kernel, rfl, by decide +kernel, by decide +kernel⟩
theorem scIsSide : FnScope ["value"] ["value"] (defScope sIsSide) := ⟨rfl, rfl, rfl, by decide +kernel, rfl, by decide +kernel, by decide +kernel⟩
theorem scCkSide : FnScope ["side"] ["side"] (defScope sCkSide) := ⟨rfl, rfl, rfl, by decide +kernel, rfl, by decide +kernel, by decide +kernel⟩
theorem scCkVal : FnScope ["value"] ["value"] (defScope sCkVal) := ⟨rfl, rfl, rfl, by decide +kernel, rfl, by decide +kernel, by decide +kernel⟩
theorem scThr : FnScope ["side", "figure", "offset", "step", "mode", "value"] ["side", "figure"] (defScope sThr) := ⟨rfl, rfl, rfl, by decide +kernel, rfl, by decide +kernel, by decide +kernel⟩
theorem scFigF : FnScope ["side", "value", "figure"] ["side", "value"] (defScope sFigF) := ⟨rfl, rfl, rfl, by decide +kernel, rfl, by decide +kernel, by decide +kernel⟩
theorem scHTo : FnScope ["side", "value"] ["side", "value"] (defScope sHTo) := ⟨rfl, rfl, rfl, by decide +kernel, rfl, by decide +kernel, by decide +kernel⟩
theorem scHanded : FnScope ["side", "value"] ["side", "value"] (defScope sHanded) := ⟨rfl, rfl, rfl, by decide +kernel, rfl, by decide +kernel, by decide +kernel⟩
theorem scMird : FnScope ["side"] ["side"] (defScope sMird) := ⟨rfl, rfl, rfl, by decide +kernel, rfl, by decide +kernel, by decide +kernel⟩
theorem scMirror : FnScope ["side"] ["side"] (defScope sMirror) := ⟨rfl, rfl, rfl, by decide +kernel, rfl, by decide +kernel, by decide +kernel⟩
theorem scLead : FnScope ["side", "step", "mode"] ["side"] (defScope sLead) := ⟨rfl, rfl, rfl, by decide +kernel, rfl, by decide +kernel, by decide +kernel⟩
theorem scFormed : FnScope ["side", "offset", "step", "mode", "known", "other"] ["side"] (defScope sFormed) := ⟨rfl, rfl, rfl, by decide +kernel, rfl, by decide +kernel, by decide +kernel⟩
theorem scForm : FnScope ["side"] ["side"] (defScope sForm) := ⟨rfl, rfl, rfl, by decide +kernel, rfl, by decide +kernel, by decide +kernel⟩
/-! ### words for modes -/
def Md.str : Md → Str
  | .dn => "down" | .up => "up" | .hd => "half_down" | .hu => "half_up" | .he => "half_even"
theorem md_inj {m n : Md} (h : V.str m.str = V.str n.str) : m = n := by
  cases m <;> cases n <;> first | rfl | (exfalso; revert h; decide +kernel)
def five : List Md := [.dn, .up, .hd, .hu, .he]
def mv (m : Md) : V := .str m.str
def sd (o s : Int) (m : Md) : List V := [.int o, .int s, .str m.str]
/-- a side stands at p -/
def SideAt (H : Hp) (p : Addr) (o s : Int) (m : Md) : Prop := H p = some (.tup (sd o s m))
structure Ok (o s : Int) : Prop where
  lo : -(10 ^ 40) ≤ o
  hi : o ≤ 10 ^ 40
  s1 : 1 ≤ s
  s2 : s ≤ 10 ^ 30
theorem Ok.sb {o s : Int} (k : Ok o s) : s.natAbs < 2 ^ 100 := by
  have := k.s1
  have := k.s2
  omega
theorem Ok.neg {o s : Int} (k : Ok o s) : Ok (-o) s := ⟨by have := k.hi; omega, by have := k.lo; omega, k.s1, k.s2⟩
/-! ### what the top has written -/
structure G7 (K : PySem.W.Frag) (w : World) (mg : Str → Option Value) : Prop where
  isi : mg "isinstance" = none
  int : mg "int" = none
  bool : mg "bool" = none
  tuple : mg "tuple" = none
  len : mg "len" = none
  abs : mg "abs" = none
  str : mg "str" = none
  range : mg "range" = none
  gs : ∃ t, mg "GREATEST_STEP" = some (.int 1000000000000000000000000000000 t)
  go : ∃ t, mg "GREATEST_OFFSET" = some (.int 10000000000000000000000000000000000000000 t)
  md : ∃ p, mg "MODES" = some (.ref p) ∧ ∀ H, SqT K H p (five.map mv)
  mi : ∃ p, mg "MIRRORED" = some (.ref p) ∧ ∀ m : Md, KDct K w p m.str (mv m.mir)
/-- a def of the text, as its callers want it -/
structure D7 (K : PySem.W.Frag) (mg : Str → Option Value) (x : Str) (st : Stmt) (ps : List Str) (f : Addr) (fd : FuncData) : Prop where
  F : Fun K x x st f fd
  b : Binds K fd ps []
  g : mg x = some (.ref f)
structure All7 (K : PySem.W.Frag) (mg : Str → Option Value) where
  f9 : Addr
  d9 : FuncData
  D9 : D7 K mg "is_integer" sIsInt ["value"] f9 d9
  f10 : Addr
  d10 : FuncData
  D10 : D7 K mg "is_side" sIsSide ["value"] f10 d10
  f11 : Addr
  d11 : FuncData
  D11 : D7 K mg "check_side" sCkSide ["side"] f11 d11
  f12 : Addr
  d12 : FuncData
  D12 : D7 K mg "check_value" sCkVal ["value"] f12 d12
  f13 : Addr
  d13 : FuncData
  D13 : D7 K mg "threshold" sThr ["side", "figure"] f13 d13
  f14 : Addr
  d14 : FuncData
  D14 : D7 K mg "figure_for" sFigF ["side", "value"] f14 d14
  f15 : Addr
  d15 : FuncData
  D15 : D7 K mg "handed_to" sHTo ["side", "value"] f15 d15
  f16 : Addr
  d16 : FuncData
  D16 : D7 K mg "handed" sHanded ["side", "value"] f16 d16
  f17 : Addr
  d17 : FuncData
  D17 : D7 K mg "mirrored" sMird ["side"] f17 d17
  f18 : Addr
  d18 : FuncData
  D18 : D7 K mg "mirror" sMirror ["side"] f18 d18
  f19 : Addr
  d19 : FuncData
  D19 : D7 K mg "lead" sLead ["side"] f19 d19
  f20 : Addr
  d20 : FuncData
  D20 : D7 K mg "formed" sFormed ["side"] f20 d20
  f21 : Addr
  d21 : FuncData
  D21 : D7 K mg "form" sForm ["side"] f21 d21
  f23 : Addr
  d23 : FuncData
  D23 : D7 K mg "_law_source" sSrc ["_law_script"] f23 d23
  f24 : Addr
  d24 : FuncData
  D24 : D7 K mg "_law_draw" sDraw ["_law_source_here", "_law_limit"] f24 d24
  f25 : Addr
  d25 : FuncData
  D25 : D7 K mg "_law_pick" sPick ["_law_source_here", "_law_values"] f25 d25
  f26 : Addr
  d26 : FuncData
  D26 : D7 K mg "_law_great" sGreat ["_law_source_here", "_law_digits"] f26 d26
  f27 : Addr
  d27 : FuncData
  D27 : D7 K mg "_law_side" sSide ["_law_source_here", "_law_digits"] f27 d27
  f28 : Addr
  d28 : FuncData
  D28 : D7 K mg "_law_figure" sFigL ["_law_side_here", "_law_value"] f28 d28
  f29 : Addr
  d29 : FuncData
  D29 : D7 K mg "_law_handed" sHndL ["_law_side_here", "_law_value"] f29 d29
  f30 : Addr
  d30 : FuncData
  D30 : D7 K mg "_law_mirror_fits" sMF ["_law_one", "_law_value"] f30 d30
  f31 : Addr
  d31 : FuncData
  D31 : D7 K mg "_law_form_fits" sFF ["_law_one", "_law_values"] f31 d31
  f32 : Addr
  d32 : FuncData
  D32 : D7 K mg "_law_first_mode" sFst ["_law_one"] f32 d32
  f33 : Addr
  d33 : FuncData
  D33 : D7 K mg "_law_small_fits" sSF ["_law_source_here"] f33 d33
  f34 : Addr
  d34 : FuncData
  D34 : D7 K mg "law" sLaw ["_law_script"] f34 d34
/-- a call of a def of the text -/
theorem pcall {X : Cx} {x : Str} {st : Stmt} {ps : List Str} {f : Addr} {fd : FuncData} {k : Nat} {sp : Sp} {e : Expr} {es : List Expr} {t : TA} {p pos : Pos}
    (G : FnOk X.prog X.w X.K X.mg X.base CX0 k f fd ps sp) (D : D7 X.K X.mg x st ps f fd) (hr : Room k X.A) (ha : PA X (e :: es) t) (hg : Gl X x := by rfl)
    (hdb : (x == ("__debug__" : Str)) = false := by decide) (he : starEach (e :: es) X.env = (false, eval e X.env) :: starEach es X.env := by rfl) (hpl : (backTo pos (starEach es X.env)).any (·.1) = false := by rfl) :
    PE X (.Call (.Name x p) (e :: es) [] pos) (tCall sp [] E0 t) := pe_call G hr hg D.g D.F.kp D.b .nil pass0 ha hdb he hpl
/-! ### heaps -/
theorem same_upd {H : Hp} {p : Addr} {o : HO} (h : H p = none) : Same H (upd H p o) := fun b x e => by
  rw [upd_ne (ne_of_none e h)]
  exact e
end K7
namespace K7
open PySem PySem.Spec PyProof.Rows L2
section
variable {P : Program} {w : World} {K : PySem.W.Frag} {mg : Str → Option Value} {base : Heap}
/-! ### is_integer, is_side, check_side, check_value -/
def spInt : Sp := fun vs H Q _ => ∃ i : Int, vs = [.int i] ∧ Q (.bl true) H
theorem ok_isInt (D : All7 K mg) (T : G7 K w mg) : FnOk P w K mg base CX0 1 D.f9 D.d9 ["value"] spInt := by
  refine D.D9.F.ok scIsInt (fun vs H Q E h => ?_) (fun cdv A outer s H vs Q E hr h => ?_)
  · obtain ⟨i, rfl, _⟩ := h
    rfl
  · obtain ⟨i, rfl, q⟩ := h
    refine ⟨_, pss_one (ps_ret (pe_and (pe_callB call_isi (by rfl) T.isi (by decide +kernel) (pa_cons (pv 0) (pa_cons (pe_bltn (v := .ty "int") (by rfl) T.int (by decide +kernel) rfl) pa_nil)))
      (pe_one (pe_not (pe_callB call_isi (by rfl) T.isi (by decide +kernel) (pa_cons (pv 0) (pa_cons (pe_bltn (v := .ty "bool") (by rfl) T.bool (by decide +kernel) rfl) pa_nil))))))), ?_⟩
    refine ⟨_, rfl, .int i, .ty "int", .type "int", .type "int", true, rfl, .ty _, .base (.int i), kit_ty (by decide +kernel), _, rfl, iteT ?_⟩
    exact ⟨_, rfl, .int i, .ty "bool", .type "int", .type "bool", false, rfl, .ty _, .base (.int i), kit_ty (by decide +kernel), _, rfl, q⟩
theorem mode_in (m : Md) : inV (mv m) (five.map mv) = true := by cases m <;> decide +kernel
theorem five_flat : (five.map mv).all flatV = true := by decide +kernel
def spIsSide : Sp := fun vs H Q _ => ∃ (p : Addr) (o s : Int) (m : Md), vs = [.ref p] ∧ SideAt H p o s m ∧ Ok o s ∧ Q (.bl true) H
theorem ok_isSide (D : All7 K mg) (T : G7 K w mg) : FnOk P w K mg base CX0 2 D.f10 D.d10 ["value"] spIsSide := by
  refine D.D10.F.ok scIsSide (fun vs H Q E h => ?_) (fun cdv A outer s H vs Q E hr h => ?_)
  · obtain ⟨p, o, s, m, rfl, _⟩ := h
    rfl
  · obtain ⟨p, o, st, m, rfl, hT, ok, q⟩ := h
    obtain ⟨tg, hgs⟩ := T.gs
    obtain ⟨to, hgo⟩ := T.go
    obtain ⟨pm, hmd, hmT⟩ := T.md
    have hS : SqT K H p (sd o st m) := SqT.of hT
    refine ⟨_, pss_cons (ps_if (PW.pt (pw_or (pt_not (pt_val (pe_callB call_isi (by rfl) T.isi (by decide +kernel) (pa_cons (pv 0) (pa_cons (pe_bltn (v := .ty "tuple") (by rfl) T.tuple (by decide +kernel) rfl) pa_nil)))))
          (pw_or (pt_cmpR op_ne (pe_callB call_len_seq (by rfl) T.len PySem.boot_len (pa_cons (pv 0) pa_nil)) pe_int (nomark _))
          (pw_or (pt_not (pt_val (pcall (ok_isInt D T) D.D9 hr (pa_cons (pe_ix ix_tup (pv 0) pe_int (fun _ _ => rfl)) pa_nil))))
          (pw_or1 (pt_not (pt_val (pcall (ok_isInt D T) D.D9 hr (pa_cons (pe_ix ix_tup (pv 0) pe_int (fun _ _ => rfl)) pa_nil)))))))))
        (pss_one (ps_ret pe_bl)) pss_nil)
      (pss_cons (ps_if (PW.pt (pw_or (pt_cmpR op_gt (pe_callB call_abs (by rfl) T.abs (by decide +kernel) (pa_cons (pe_ix ix_tup (pv 0) pe_int (fun _ _ => rfl)) pa_nil)) (pe_glob (v := .int 10000000000000000000000000000000000000000) (by rfl) hgo ⟨_, rfl⟩) (nomark _))
          (pw_or1 (pt_not (pt_chain op_le op_le pe_int (pe_ix ix_tup (pv 0) pe_int (fun _ _ => rfl)) (pe_glob (v := .int 1000000000000000000000000000000) (by rfl) hgs ⟨_, rfl⟩))))))
        (pss_one (ps_ret pe_bl)) pss_nil)
      (pss_one (ps_ret (pe_and (pe_callB call_isi (by rfl) T.isi (by decide +kernel) (pa_cons (pe_ix ix_tup (pv 0) pe_int (fun _ _ => rfl)) (pa_cons (pe_bltn (v := .ty "str") (by rfl) T.str (by decide +kernel) rfl) pa_nil)))
        (pe_one (pe_cmpR op_in_seq (pe_ix ix_tup (pv 0) pe_int (fun _ _ => rfl)) (pe_glob (v := .ref pm) (by rfl) hmd rfl) (by rfl))))))), ?_⟩
    refine ⟨_, rfl, .ref p, .ty "tuple", .type "tuple", .type "tuple", true, rfl, .ty _, .base (.tup hT), kit_ty (by decide +kernel), _, rfl, iteF ?_⟩
    refine ⟨_, rfl, p, _, rfl, .inr hS, rfl, _, rfl, iteF ?_⟩
    refine ⟨_, rfl, p, _, _, _, rfl, rfl, hS, atI_nat (j := 0) rfl, o, rfl, _, rfl, iteF ?_⟩
    refine ⟨_, rfl, p, _, _, _, rfl, rfl, hS, atI_nat (j := 1) rfl, st, rfl, _, rfl, iteF ?_⟩
    refine ⟨_, rfl, p, _, _, _, rfl, rfl, hS, atI_nat (j := 0) rfl, _, rfl, _, _, rfl, rfl, _, rfl, ?_⟩
    have h1 := ok.lo
    have h2 := ok.hi
    have h3 := ok.s1
    have h4 := ok.s2
    rw [decide_eq_false (by split <;> omega)]
    refine iteF ⟨_, rfl, p, _, _, _, rfl, rfl, hS, atI_nat (j := 1) rfl, _, _, rfl, rfl, _, rfl, ?_⟩
    rw [decide_eq_true (by omega)]
    refine iteT ⟨_, _, rfl, rfl, _, rfl, ?_⟩
    rw [decide_eq_true (by omega)]
    refine iteF ⟨_, rfl, p, _, _, _, rfl, rfl, hS, atI_nat (j := 2) rfl, .str m.str, .ty "str", .type "str", .type "str", true, rfl, .ty _, .base (.str _), kit_ty (by decide +kernel), _, rfl, iteT ?_⟩
    refine ⟨_, rfl, p, _, _, _, rfl, rfl, hS, atI_nat (j := 2) rfl, pm, _, rfl, .inr (hmT _), rfl, five_flat, ?_⟩
    have e : inV (.str m.str) (five.map mv) = true := mode_in m
    show Q (.bl (inV (.str m.str) (five.map mv))) H
    rw [e]
    exact q
def spCk : Sp := fun vs H Q _ => ∃ (p : Addr) (o s : Int) (m : Md), vs = [.ref p] ∧ SideAt H p o s m ∧ Ok o s ∧ Q .non H
theorem ok_ckSide (D : All7 K mg) (T : G7 K w mg) : FnOk P w K mg base CX0 3 D.f11 D.d11 ["side"] spCk := by
  refine D.D11.F.ok scCkSide (fun vs H Q E h => ?_) (fun cdv A outer s H vs Q E hr h => ?_)
  · obtain ⟨p, o, s, m, rfl, _⟩ := h
    rfl
  · obtain ⟨p, o, st, m, rfl, hT, ok, q⟩ := h
    refine ⟨_, pss_one (ps_if (pt_not (pt_val (pcall (ok_isSide D T) D.D10 hr (pa_cons (pv 0) pa_nil)))) (pss_one ps_never) pss_nil), ?_⟩
    exact ⟨_, rfl, p, o, st, m, rfl, hT, ok, _, rfl, iteF q⟩
def spCkV : Sp := fun vs H Q _ => ∃ i : Int, vs = [.int i] ∧ Q .non H
theorem ok_ckVal (D : All7 K mg) (T : G7 K w mg) : FnOk P w K mg base CX0 2 D.f12 D.d12 ["value"] spCkV := by
  refine D.D12.F.ok scCkVal (fun vs H Q E h => ?_) (fun cdv A outer s H vs Q E hr h => ?_)
  · obtain ⟨i, rfl, _⟩ := h
    rfl
  · obtain ⟨i, rfl, q⟩ := h
    refine ⟨_, pss_one (ps_if (pt_not (pt_val (pcall (ok_isInt D T) D.D9 hr (pa_cons (pv 0) pa_nil)))) (pss_one ps_never) pss_nil), ?_⟩
    exact ⟨_, rfl, i, rfl, _, rfl, iteF q⟩
/-! ### threshold, figure_for, handed_to, handed -/
def spThr : Sp := fun vs H Q _ => ∃ (p : Addr) (o s : Int) (m : Md) (k : Int), vs = [.ref p, .int k] ∧ SideAt H p o s m ∧ Ok o s ∧ k.natAbs < 2 ^ 300 ∧ Q (.int (thr o s m k)) H
theorem ok_thr (D : All7 K mg) : FnOk P w K mg base CX0 1 D.f13 D.d13 ["side", "figure"] spThr := by
  refine D.D13.F.ok scThr (fun vs H Q E h => ?_) (fun cdv A outer s H vs Q E hr h => ?_)
  · obtain ⟨p, o, s, m, k, rfl, _⟩ := h
    rfl
  · obtain ⟨p, o, st, m, k, rfl, hT, ok, hk, q⟩ := h
    have hS : SqT K H p (sd o st m) := SqT.of hT
    refine ⟨_, pss_cons (ps_asg (pv 0) (pg_tup (by rfl) (pgs_cons (pg_name (i := 2) scThr.nd rfl (.inl rfl)) (pgs_cons (pg_name (i := 3) scThr.nd rfl (.inl rfl)) (pgs_cons (pg_name (i := 4) scThr.nd rfl (.inl rfl)) pgs_nil)))))
      (pss_cons (ps_set (i := 5) scThr.nd rfl (.inl rfl) (pe_op op_add (pv 2) (pe_op op_mulW (pv 3) (pv 1))))
      (pss_cons (ps_if (pt_cmpR op_eq (pv 4) pe_str (nomark _)) (pss_one (ps_ret (pv 5))) pss_nil)
      (pss_cons (ps_if (pt_cmpR op_eq (pv 4) pe_str (nomark _)) (pss_one (ps_ret (pe_op op_add (pe_op op_sub (pv 5) (pv 3)) pe_int))) pss_nil)
      (pss_cons (ps_if (PW.pt (pw_or (pt_cmpR op_eq (pv 4) pe_str (nomark _)) (pw_or1 (PW.pt (pw_and (pt_cmpR op_eq (pv 4) pe_str (nomark _)) (pw_and1 (pt_cmpR op_eq (pe_op op_mod (pv 1) pe_int) pe_int (nomark _))))))))
        (pss_one (ps_ret (pe_op op_sub (pv 5) (pe_op op_fdiv (pv 3) pe_int)))) pss_nil)
      (pss_one (ps_ret (pe_op op_sub (pv 5) (pe_op op_fdiv (pe_op op_sub (pv 3) pe_int) pe_int)))))))), ?_⟩
    refine ⟨_, rfl, p, _, rfl, hS, rfl, _, _, rfl, _, _, rfl, _, _, rfl, rfl, ?_⟩
    refine ⟨_, rfl, _, rfl, _, rfl, _, _, rfl, rfl, wide_mul ok.sb hk (by decide) (by decide) (by decide), _, _, rfl, rfl, ?_⟩
    unfold thr at q
    refine ⟨_, rfl, rfl, _, rfl, ite2 (fun e => ?_) (fun e => ?_)⟩
    · have e' : m = .dn := md_inj (n := .dn) (of_decide_eq_true e)
      rw [if_pos e'] at q
      exact ⟨_, rfl, q⟩
    have n1 : m ≠ .dn := fun z => e (decide_eq_true (by rw [z]; rfl))
    rw [if_neg n1] at q
    refine ⟨_, rfl, rfl, _, rfl, ite2 (fun e => ?_) (fun e => ?_)⟩
    · have e' : m = .up := md_inj (n := .up) (of_decide_eq_true e)
      rw [if_pos e'] at q
      exact ⟨_, rfl, _, rfl, _, _, rfl, rfl, _, _, rfl, rfl, q⟩
    have n2 : m ≠ .up := fun z => e (decide_eq_true (by rw [z]; rfl))
    rw [if_neg n2] at q
    have low : m ≠ .hu → ¬ (m = .he ∧ k % 2 = 0) → Q (.int (o + st * k - (st - 1) / 2)) H := fun a b => by
      rw [if_neg (fun z => z.elim a b)] at q
      exact q
    have high : (m = .hu ∨ (m = .he ∧ k % 2 = 0)) → Q (.int (o + st * k - st / 2)) H := fun a => by
      rw [if_pos a] at q
      exact q
    refine ⟨_, rfl, rfl, _, rfl, ite2 (fun e => ?_) (fun e => ?_)⟩
    · have e' : m = .hu := md_inj (n := .hu) (of_decide_eq_true e)
      exact iteT ⟨_, rfl, _, rfl, _, _, rfl, rfl, ⟨by decide, by decide⟩, _, _, rfl, rfl, high (.inl e')⟩
    have n3 : m ≠ .hu := fun z => e (decide_eq_true (by rw [z]; rfl))
    refine ⟨_, rfl, rfl, _, rfl, ite2 (fun e => ?_) (fun e => ?_)⟩
    · have e' : m = .he := md_inj (n := .he) (of_decide_eq_true e)
      refine ⟨_, rfl, _, _, rfl, rfl, (by show (0 : Int) < 2; decide), rfl, _, rfl, ?_⟩
      refine ite2 (fun e => ?_) (fun e => ?_)
      · exact ⟨_, rfl, _, rfl, _, _, rfl, rfl, ⟨by decide, by decide⟩, _, _, rfl, rfl, high (.inr ⟨e', V.int.inj (of_decide_eq_true e)⟩)⟩
      · exact ⟨_, rfl, _, rfl, _, _, rfl, rfl, _, _, rfl, rfl, ⟨by decide, by decide⟩, _, _, rfl, rfl, low n3 (fun z => e (decide_eq_true (congrArg V.int z.2)))⟩
    · have n4 : m ≠ .he := fun z => e (decide_eq_true (by rw [z]; rfl))
      exact iteF ⟨_, rfl, _, rfl, _, _, rfl, rfl, _, _, rfl, rfl, ⟨by decide, by decide⟩, _, _, rfl, rfl, low n3 (fun z => n4 z.1)⟩
theorem fig_small {o s v : Int} (ok : Ok o s) (hv : v.natAbs < 2 ^ 200) : ((v - o) / s).natAbs < 2 ^ 201 := by
  have h1 := ok.lo
  have h2 := ok.hi
  have h3 := ok.s1
  have hb : (v - o).natAbs < 2 ^ 201 := by omega
  have : ((v - o) / s).natAbs ≤ (v - o).natAbs := Int.natAbs_ediv_le_natAbs _ _
  omega
def spFig : Sp := fun vs H Q _ => ∃ (p : Addr) (o s : Int) (m : Md) (v : Int), vs = [.ref p, .int v] ∧ SideAt H p o s m ∧ Ok o s ∧ v.natAbs < 2 ^ 200 ∧ Q (.int (figF o s m v)) H
theorem ok_figF (D : All7 K mg) : FnOk P w K mg base CX0 2 D.f14 D.d14 ["side", "value"] spFig := by
  refine D.D14.F.ok scFigF (fun vs H Q E h => ?_) (fun cdv A outer s H vs Q E hr h => ?_)
  · obtain ⟨p, o, s, m, k, rfl, _⟩ := h
    rfl
  · obtain ⟨p, o, st, m, v, rfl, hT, ok, hv, q⟩ := h
    have hS : SqT K H p (sd o st m) := SqT.of hT
    refine ⟨_, pss_cons (ps_set (i := 2) scFigF.nd rfl (.inl rfl) (pe_op op_fdivW (pe_op op_sub (pv 1) (pe_ix ix_tup (pv 0) pe_int (fun _ _ => rfl))) (pe_ix ix_tup (pv 0) pe_int (fun _ _ => rfl))))
      (pss_one (ps_ret (pe_ifExp (pt_cmpR op_ge (pv 1) (pcall (ok_thr D) D.D13 hr (pa_cons (pv 0) (pa_cons (pe_op op_add (pv 2) pe_int) pa_nil))) (nomark _)) (pe_op op_add (pv 2) pe_int) (pv 2)))), ?_⟩
    refine ⟨_, rfl, _, rfl, p, _, _, _, rfl, rfl, hS, atI_nat (j := 0) rfl, _, _, rfl, rfl, _, rfl, p, _, _, _, rfl, rfl, hS, atI_nat (j := 1) rfl, _, _, rfl, rfl, wide_div (by have := ok.s1; omega) ok.sb (by decide) (by decide), ?_⟩
    have hf := fig_small ok hv
    refine ⟨_, rfl, _, rfl, _, rfl, _, _, rfl, rfl, p, o, st, m, _, rfl, hT, ok, (by omega), _, _, rfl, rfl, _, rfl, ?_⟩
    unfold figF at q
    refine ite2 (fun e => ?_) (fun e => ?_)
    · rw [if_pos (of_decide_eq_true e)] at q
      exact ⟨_, rfl, _, _, rfl, rfl, q⟩
    · rw [if_neg (fun z => e (decide_eq_true z))] at q
      exact ⟨_, rfl, q⟩
theorem figF_small {o s v : Int} {m : Md} (ok : Ok o s) (hv : v.natAbs < 2 ^ 200) : (figF o s m v).natAbs < 2 ^ 202 := by
  have h := fig_small ok hv
  unfold figF
  split <;> omega
def spHnd : Sp := fun vs H Q _ => ∃ (p : Addr) (o s : Int) (m : Md) (v : Int), vs = [.ref p, .int v] ∧ SideAt H p o s m ∧ Ok o s ∧ v.natAbs < 2 ^ 200 ∧ Q (.int (hnd o s m v)) H
theorem ok_hTo (D : All7 K mg) : FnOk P w K mg base CX0 3 D.f15 D.d15 ["side", "value"] spHnd := by
  refine D.D15.F.ok scHTo (fun vs H Q E h => ?_) (fun cdv A outer s H vs Q E hr h => ?_)
  · obtain ⟨p, o, s, m, k, rfl, _⟩ := h
    rfl
  · obtain ⟨p, o, st, m, v, rfl, hT, ok, hv, q⟩ := h
    have hS : SqT K H p (sd o st m) := SqT.of hT
    refine ⟨_, pss_one (ps_ret (pe_op op_add (pe_ix ix_tup (pv 0) pe_int (fun _ _ => rfl)) (pe_op op_mulW (pe_ix ix_tup (pv 0) pe_int (fun _ _ => rfl)) (pcall (ok_figF D) D.D14 hr (pa_cons (pv 0) (pa_cons (pv 1) pa_nil)))))), ?_⟩
    refine ⟨_, rfl, p, _, _, _, rfl, rfl, hS, atI_nat (j := 0) rfl, _, rfl, p, _, _, _, rfl, rfl, hS, atI_nat (j := 1) rfl, _, rfl, _, rfl, p, o, st, m, v, rfl, hT, ok, hv,
      _, _, rfl, rfl, wide_mul ok.sb (figF_small ok hv) (by decide) (by decide) (by decide), _, _, rfl, rfl, ?_⟩
    unfold hnd at q
    rw [← fig_eq o st m v ok.s1] at q
    exact q
theorem ok_handed (D : All7 K mg) (T : G7 K w mg) : FnOk P w K mg base CX0 4 D.f16 D.d16 ["side", "value"] spHnd := by
  refine D.D16.F.ok scHanded (fun vs H Q E h => ?_) (fun cdv A outer s H vs Q E hr h => ?_)
  · obtain ⟨p, o, s, m, k, rfl, _⟩ := h
    rfl
  · obtain ⟨p, o, st, m, v, rfl, hT, ok, hv, q⟩ := h
    refine ⟨_, pss_cons (ps_expr (pcall (ok_ckSide D T) D.D11 hr (pa_cons (pv 0) pa_nil))) (pss_cons (ps_expr (pcall (ok_ckVal D T) D.D12 (hr.mono (by decide)) (pa_cons (pv 1) pa_nil)))
      (pss_one (ps_ret (pcall (ok_hTo D) D.D15 hr (pa_cons (pv 0) (pa_cons (pv 1) pa_nil)))))), ?_⟩
    exact ⟨_, rfl, p, o, st, m, rfl, hT, ok, _, rfl, v, rfl, _, rfl, _, rfl, p, o, st, m, v, rfl, hT, ok, hv, q⟩
end
end K7
namespace K7
open PySem PySem.Spec PyProof.Rows L2
section
variable {P : Program} {w : World} {K : PySem.W.Frag} {mg : Str → Option Value} {base : Heap}
/-! ### mirrored, mirror -/
def spMird : Sp := fun vs H Q _ => ∃ (p : Addr) (o s : Int) (m : Md), vs = [.ref p] ∧ SideAt H p o s m ∧ ∀ p', H p' = none → Q (.ref p') (upd H p' (.tup (sd (-o) s m.mir)))
theorem ok_mird (D : All7 K mg) (T : G7 K w mg) : FnOk P w K mg base CX0 1 D.f17 D.d17 ["side"] spMird := by
  refine D.D17.F.ok scMird (fun vs H Q E h => ?_) (fun cdv A outer s H vs Q E hr h => ?_)
  · obtain ⟨p, o, s, m, rfl, _⟩ := h
    rfl
  · obtain ⟨p, o, st, m, rfl, hT, q⟩ := h
    have hS : SqT K H p (sd o st m) := SqT.of hT
    obtain ⟨pd, hmi, hk⟩ := T.mi
    refine ⟨_, pss_one (ps_ret (pe_tup (pa_cons (pe_un un_neg (pe_ix ix_tup (pv 0) pe_int (fun _ _ => rfl))) (pa_cons (pe_ix ix_tup (pv 0) pe_int (fun _ _ => rfl))
      (pa_cons (pe_ix ix_kdict (pe_glob (v := .ref pd) (by rfl) hmi rfl) (pe_ix ix_tup (pv 0) pe_int (fun _ _ => rfl)) (fun _ _ => rfl)) pa_nil))))), ?_⟩
    exact ⟨_, rfl, p, _, _, _, rfl, rfl, hS, atI_nat (j := 0) rfl, _, rfl, _, rfl, p, _, _, _, rfl, rfl, hS, atI_nat (j := 1) rfl, _, rfl, p, _, _, _, rfl, rfl, hS, atI_nat (j := 2) rfl,
      pd, m.str, mv m.mir, rfl, rfl, hk m, (by show 3 ≤ sizeLine; decide), fun p' hp' => q p' hp'⟩
def spMir : Sp := fun vs H Q _ => ∃ (p : Addr) (o s : Int) (m : Md), vs = [.ref p] ∧ SideAt H p o s m ∧ Ok o s ∧ ∀ p', H p' = none → Q (.ref p') (upd H p' (.tup (sd (-o) s m.mir)))
theorem ok_mirror (D : All7 K mg) (T : G7 K w mg) : FnOk P w K mg base CX0 4 D.f18 D.d18 ["side"] spMir := by
  refine D.D18.F.ok scMirror (fun vs H Q E h => ?_) (fun cdv A outer s H vs Q E hr h => ?_)
  · obtain ⟨p, o, s, m, rfl, _⟩ := h
    rfl
  · obtain ⟨p, o, st, m, rfl, hT, ok, q⟩ := h
    refine ⟨_, pss_cons (ps_expr (pcall (ok_ckSide D T) D.D11 hr (pa_cons (pv 0) pa_nil))) (pss_one (ps_ret (pcall (ok_mird D T) D.D17 (hr.mono (by decide)) (pa_cons (pv 0) pa_nil)))), ?_⟩
    exact ⟨_, rfl, p, o, st, m, rfl, hT, ok, _, rfl, p, o, st, m, rfl, hT, q⟩
/-! ### lead, formed, form -/
def spLead : Sp := fun vs H Q _ => ∃ (p : Addr) (o s : Int) (m : Md), vs = [.ref p] ∧ SideAt H p o s m ∧ ∀ H', Same H H' → Q (.int (lead s m)) H'
theorem ok_lead (D : All7 K mg) : FnOk P w K mg base CX0 1 D.f19 D.d19 ["side"] spLead := by
  refine D.D19.F.ok scLead (fun vs H Q E h => ?_) (fun cdv A outer s H vs Q E hr h => ?_)
  · obtain ⟨p, o, s, m, rfl, _⟩ := h
    rfl
  · obtain ⟨p, o, st, m, rfl, hT, q⟩ := h
    have hS : SqT K H p (sd o st m) := SqT.of hT
    refine ⟨_, pss_cons (ps_asg (pe_slice sl_tup (pv 0) (po_some pe_int) po_none) (pg_tup (by rfl) (pgs_cons (pg_name (i := 1) scLead.nd rfl (.inl rfl)) (pgs_cons (pg_name (i := 2) scLead.nd rfl (.inl rfl)) pgs_nil))))
      (pss_cons (ps_if (pt_cmpR op_eq (pv 2) pe_str (nomark _)) (pss_one (ps_ret pe_int)) pss_nil)
      (pss_cons (ps_if (pt_cmpR op_eq (pv 2) pe_str (nomark _)) (pss_one (ps_ret (pe_op op_sub (pv 1) pe_int))) pss_nil)
      (pss_one (ps_ret (pe_ifExp (pt_cmpR op_eq (pv 2) pe_str (nomark _)) (pe_op op_fdiv (pe_op op_sub (pv 1) pe_int) pe_int) (pe_op op_fdiv (pv 1) pe_int)))))), ?_⟩
    refine ⟨_, rfl, 1, rfl, p, _, rfl, hS, (by show ¬ (1 = 0 ∧ 3 = 3); decide), fun t nt => ?_⟩
    have cut : cutV (sd o st m) (some 1) none = [.int st, .str m.str] := rfl
    rw [cut]
    have q' := q _ (same_upd (o := .tup [.int st, .str m.str]) nt)
    refine ⟨t, _, rfl, SqT.of upd_same, rfl, _, _, rfl, _, _, rfl, rfl, ?_⟩
    unfold lead at q'
    refine ⟨_, rfl, rfl, _, rfl, ite2 (fun e => ?_) (fun e => ?_)⟩
    · have e' : m = .dn := md_inj (n := .dn) (of_decide_eq_true e)
      rw [if_pos e'] at q'
      exact q'
    have n1 : m ≠ .dn := fun z => e (decide_eq_true (by rw [z]; rfl))
    rw [if_neg n1] at q'
    refine ⟨_, rfl, rfl, _, rfl, ite2 (fun e => ?_) (fun e => ?_)⟩
    · have e' : m = .up := md_inj (n := .up) (of_decide_eq_true e)
      rw [if_pos e'] at q'
      exact ⟨_, rfl, _, _, rfl, rfl, q'⟩
    have n2 : m ≠ .up := fun z => e (decide_eq_true (by rw [z]; rfl))
    rw [if_neg n2] at q'
    refine ⟨_, rfl, rfl, _, rfl, ite2 (fun e => ?_) (fun e => ?_)⟩
    · have e' : m = .hd := md_inj (n := .hd) (of_decide_eq_true e)
      rw [if_pos e'] at q'
      exact ⟨_, rfl, _, _, rfl, rfl, _, _, rfl, rfl, ⟨by decide, by decide⟩, q'⟩
    · have n3 : m ≠ .hd := fun z => e (decide_eq_true (by rw [z]; rfl))
      rw [if_neg n3] at q'
      exact ⟨_, rfl, _, _, rfl, rfl, ⟨by decide, by decide⟩, q'⟩
theorem iteN {c : Bool} {A B : Prop} (e : c = false) (h : B) : if c = true then A else B := by
  rw [e]
  exact iteF h
theorem iteY {c : Bool} {A B : Prop} (e : c = true) (h : A) : if c = true then A else B := by
  rw [e]
  exact iteT h
theorem ite_same {c : Bool} {A B : Prop} (h : c = true → B → A) (hb : B) : if c = true then A else B := by
  by_cases e : c = true
  · rw [if_pos e]
    exact h e hb
  · rw [if_neg e]
    exact hb
/-- what the comprehension of formed keeps -/
def keep (s : Int) (m x : Md) : Bool := decide (x ≠ .he) && decide (lead s x = lead s m)
theorem five_keep (s : Int) (m : Md) : five.filter (keep s m) = known s m := by
  unfold five known four keep
  simp only [List.filter_cons, List.filter_nil]
  rfl
theorem filter_take {α : Type} {p : α → Bool} {xs : List α} {i : Nat} {x : α} (h : xs[i]? = some x) : (xs.take (i + 1)).filter p = (xs.take i).filter p ++ if p x = true then [x] else [] := by
  rw [List.take_add_one, h, List.filter_append]
  cases e : p x <;> simp [e]
def spFormed : Sp := fun vs H Q _ => ∃ (p : Addr) (o s : Int) (m : Md), vs = [.ref p] ∧ SideAt H p o s m ∧ Ok o s ∧ ∀ p' H', Same H H' → H p' = none → SideAt H' p' (fO o s m) s (fM s m) → Q (.ref p') H'
theorem ok_formed (D : All7 K mg) (T : G7 K w mg) : FnOk P w K mg base CX0 2 D.f20 D.d20 ["side"] spFormed := by
  refine D.D20.F.ok scFormed (fun vs H Q E h => ?_) (fun cdv A outer s H vs Q E hr h => ?_)
  · obtain ⟨p, o, s, m, rfl, _⟩ := h
    rfl
  · obtain ⟨p, o, st, m, rfl, hT, ok, q⟩ := h
    have hS : SqT K H p (sd o st m) := SqT.of hT
    obtain ⟨pm, hmd, hmT⟩ := T.md
    have s1 := ok.s1
    refine ⟨_, pss_cons (ps_asg (pv 0) (pg_tup (by rfl) (pgs_cons (pg_name (i := 1) scFormed.nd rfl (.inl rfl)) (pgs_cons (pg_name (i := 2) scFormed.nd rfl (.inr rfl)) (pgs_cons (pg_name (i := 3) scFormed.nd rfl (.inl rfl)) pgs_nil)))))
      (pss_cons (ps_if (PW.pt (pw_and (pt_cmpR op_eq (pv 3) pe_str (nomark _)) (pw_and1 (pt_cmpR op_eq (pe_op op_mod (pv 2) pe_int) pe_int (nomark _)))))
        (pss_one (ps_ret (pe_tup (pa_cons (pe_op op_mod (pv 1) (pe_op op_mulW pe_int (pv 2))) (pa_cons (pv 2) (pa_cons (pv 3) pa_nil)))))) pss_nil)
      (pss_cons (ps_setLc (i := 4) (own := [("other", 5)]) (g := gName 5) (by rfl) scFormed.nd rfl rfl (sw_true rfl rfl rfl (by decide +kernel)) (pi_tup (pe_glob (v := .ref pm) (by rfl) hmd rfl))
          (blkOk_by (own := [("other", 5)]) (N := ["side", "offset", "step", "mode", "known", "other"]) (sc := defScope sFormed) (by decide +kernel))
          (fun _ _ _ _ _ => pg_name (i := 5) scFormed.nd rfl (Or.inl rfl))
          (fun _ _ _ _ _ => pts_one (PW.pt (pw_and (pt_cmpR op_ne (pv 5) pe_str (nomark _))
            (pw_and1 (pt_cmpR op_eq (pcall (ok_lead D) D.D19 hr (pa_cons (pe_tup (pa_cons pe_int (pa_cons (pv 2) (pa_cons (pv 5) pa_nil)))) pa_nil)) (pcall (ok_lead D) D.D19 hr (pa_cons (pv 0) pa_nil)) (nomark _))))))
          (fun _ _ _ _ _ => pv 5))
      (pss_one (ps_ret (pe_tup (pa_cons (pe_op op_mod (pv 1) (pv 2)) (pa_cons (pv 2) (pa_cons (pe_ix ix_list (pv 4) pe_int (fun _ _ => rfl)) pa_nil)))))))), ?_⟩
    refine ⟨_, rfl, p, _, rfl, hS, rfl, _, _, rfl, _, _, rfl, _, _, rfl, rfl, ?_⟩
    by_cases c : m = .he ∧ st % 2 = 0
    · obtain ⟨rfl, c2⟩ := c
      refine ⟨_, rfl, rfl, _, rfl, iteT ⟨_, rfl, _, _, rfl, rfl, (by show (0 : Int) < 2; decide), rfl, _, rfl, ?_⟩⟩
      have e2 : decide (V.int (st % 2) = V.int 0) = true := decide_eq_true (congrArg V.int c2)
      refine (if_pos e2).mpr ?_
      refine ⟨_, rfl, _, rfl, _, _, rfl, rfl, wide_mul (a := 2) (by decide) ok.sb (by decide) (by decide) (by decide), _, _, rfl, rfl, (by show 0 < 2 * st; omega), _, rfl, _, rfl, (by show 3 ≤ sizeLine; decide), fun p' np => ?_⟩
      refine q p' _ (same_upd np) np ?_
      have e1 : fO o st .he = o % (2 * st) := if_pos ⟨rfl, c2⟩
      have e3 : fM st .he = .he := if_pos ⟨rfl, c2⟩
      unfold SideAt
      rw [upd_same, e1, e3]
      rfl
    refine ⟨_, rfl, rfl, _, rfl, ite_same (fun e hb => ?_) (iteF ?_)⟩
    · have e' : m = .he := md_inj (n := .he) (of_decide_eq_true e)
      refine ⟨_, rfl, _, _, rfl, rfl, (by show (0 : Int) < 2; decide), rfl, _, rfl, ?_⟩
      have e2 : decide (V.int (st % 2) = V.int 0) = false := decide_eq_false (fun z => c ⟨e', V.int.inj z⟩)
      exact iteN e2 (Eq.mp (if_neg Bool.false_ne_true) hb)
    refine ⟨pm, rfl, ⟨_, hmT _⟩, fun L nL => lc_tup (K := K) (a := pm) (xs := five.map mv) (fun i H' => Same H H' ∧ H' L = some (.lst (((five.take i).filter (keep st m)).map mv)))
      ⟨same_upd nL, upd_same⟩ (fun i H' _ _ => hmT H') (fun i x H1 hx hP => ?_) (fun H1 hP => ?_)⟩
    · obtain ⟨sm, hL⟩ := hP
      obtain ⟨μ, hμ, rfl⟩ : ∃ μ, five[i]? = some μ ∧ x = mv μ := by
        rw [List.getElem?_map] at hx
        cases e : five[i]? with
        | none => rw [e] at hx; cases hx
        | some μ => rw [e] at hx; exact ⟨μ, rfl, (Option.some.inj hx).symm⟩
      have hf := filter_take (p := keep st m) hμ
      have i5 : i < 5 := (List.getElem?_eq_some_iff.mp hμ).1
      refine ⟨rfl, _, rfl, rfl, _, rfl, ite2 (fun e => ?_) (fun e => ?_)⟩
      · have n5 : μ ≠ .he := fun z => by
          subst z
          revert e
          decide +kernel
        refine ⟨_, rfl, _, rfl, (by show 3 ≤ sizeLine; decide), fun t nt => ?_⟩
        refine ⟨t, 0, st, μ, rfl, upd_same, fun H2 sm2 => ?_⟩
        have smt := (same_upd (o := .tup (sd 0 st μ)) nt).trans sm2
        refine ⟨_, rfl, p, o, st, m, rfl, smt _ _ (sm _ _ hT), fun H3 sm3 => ⟨rfl, _, rfl, ?_⟩⟩
        have smA := smt.trans sm3
        refine ite2 (fun e => ?_) (fun e => ?_)
        · have e2 : lead st μ = lead st m := V.int.inj (of_decide_eq_true e)
          have ek : keep st m μ = true := by
            unfold keep
            rw [decide_eq_true n5, decide_eq_true e2]
            rfl
          refine ⟨_, rfl, _, smA _ _ hL, ?_, fun b o' hb => ?_, ?_⟩
          · refine small1000 ?_
            have h1 := List.length_filter_le (keep st m) (five.take i)
            rw [List.length_map]
            rw [List.length_take] at h1
            omega
          · rw [upd_ne (ne_of_none hb nL)]
            exact smA _ _ (sm _ _ hb)
          · rw [upd_same, hf, if_pos ek, List.map_append]
            rfl
        · have e2 : ¬ lead st μ = lead st m := fun z => e (decide_eq_true (congrArg V.int z))
          have ek : keep st m μ = false := by
            unfold keep
            rw [decide_eq_false e2, Bool.and_false]
          refine ⟨fun b o' hb => smA _ _ (sm _ _ hb), ?_⟩
          rw [hf, ek, if_neg (by decide), List.append_nil]
          exact smA _ _ hL
      · have n5 : μ = .he := by
          cases μ <;> first | rfl | exact absurd (by decide +kernel) e
        have ek : keep st m μ = false := by
          rw [n5]
          rfl
        refine ⟨sm, ?_⟩
        rw [hf, ek, if_neg (by decide), List.append_nil]
        exact hL
    · obtain ⟨sm, hL⟩ := hP
      have e5 : five.take (five.map mv).length = five := by
        rw [List.length_map, List.take_length]
      rw [e5, five_keep] at hL
      obtain ⟨r, hr⟩ := known_head st m s1 c
      rw [hr] at hL
      refine ⟨_, rfl, _, rfl, _, _, rfl, rfl, (by omega), _, rfl, _, rfl, L, _, 0, mv (fM st m), rfl, rfl, SqL.of hL, atI_nat (j := 0) rfl, (by show 3 ≤ sizeLine; decide), fun p' np => ?_⟩
      refine q p' _ (sm.trans (same_upd np)) (sm.free np) ?_
      have e1 : fO o st m = o % st := if_neg c
      unfold SideAt
      rw [upd_same, e1]
      rfl
def spForm : Sp := fun vs H Q _ => ∃ (p : Addr) (o s : Int) (m : Md), vs = [.ref p] ∧ SideAt H p o s m ∧ Ok o s ∧ ∀ p' H', Same H H' → H p' = none → SideAt H' p' (fO o s m) s (fM s m) → Q (.ref p') H'
theorem ok_form (D : All7 K mg) (T : G7 K w mg) : FnOk P w K mg base CX0 4 D.f21 D.d21 ["side"] spForm := by
  refine D.D21.F.ok scForm (fun vs H Q E h => ?_) (fun cdv A outer s H vs Q E hr h => ?_)
  · obtain ⟨p, o, s, m, rfl, _⟩ := h
    rfl
  · obtain ⟨p, o, st, m, rfl, hT, ok, q⟩ := h
    refine ⟨_, pss_cons (ps_expr (pcall (ok_ckSide D T) D.D11 hr (pa_cons (pv 0) pa_nil))) (pss_one (ps_ret (pcall (ok_formed D T) D.D20 (hr.mono (by decide)) (pa_cons (pv 0) pa_nil)))), ?_⟩
    exact ⟨_, rfl, p, o, st, m, rfl, hT, ok, _, rfl, p, o, st, m, rfl, hT, ok, q⟩
end
end K7
namespace K7
open PySem PySem.Spec PyProof.Rows L2
theorem scSrc : FnScope ["_law_script", "_law_cells", "_law_k"] ["_law_script"] (defScope sSrc) := ⟨rfl, rfl, rfl, by decide +kernel, rfl, by decide +kernel, by decide +kernel⟩
theorem scDraw : FnScope ["_law_source_here", "_law_limit", "_law_cells", "_law_turn", "_law_place", "_law_cell", "_law_number"] ["_law_source_here", "_law_limit"] (defScope sDraw) := ⟨rfl, rfl, rfl, by decide +kernel, rfl, by decide +kernel, by decide +kernel⟩
theorem scPick : FnScope ["_law_source_here", "_law_values"] ["_law_source_here", "_law_values"] (defScope sPick) := ⟨rfl, rfl, rfl, by decide +kernel, rfl, by decide +kernel, by decide +kernel⟩
theorem scGreat : FnScope ["_law_source_here", "_law_digits", "_law_number", "_law_k"] ["_law_source_here", "_law_digits"] (defScope sGreat) := ⟨rfl, rfl, rfl, by decide +kernel, rfl, by decide +kernel, by decide +kernel⟩
theorem scSide : FnScope ["_law_source_here", "_law_digits", "_law_step", "_law_offset"] ["_law_source_here", "_law_digits"] (defScope sSide) := ⟨rfl, rfl, rfl, by decide +kernel, rfl, by decide +kernel, by decide +kernel⟩
/-! ### the source of the draws -/
/-- a list of cells and how many draws there were, at most T -/
def Src (H : Hp) (a c : Addr) (T : Nat) : Prop := ∃ (cs : List Int) (t : Int), H a = some (.lst [.ref c, .int t]) ∧ H c = some (.lst (cs.map V.int)) ∧ a ≠ c ∧ 1 ≤ cs.length ∧ cs.length ≤ 63 ∧ 0 ≤ t ∧ t ≤ (T : Int)
/-- all but the source is as it was -/
def Kp (a c : Addr) (H H' : Hp) : Prop := ∀ b o, H b = some o → b ≠ a → b ≠ c → H' b = some o
theorem Kp.refl (a c : Addr) (H : Hp) : Kp a c H H := fun _ _ e _ _ => e
theorem Kp.trans {a c : Addr} {H H1 H2 : Hp} (x : Kp a c H H1) (y : Kp a c H1 H2) : Kp a c H H2 := fun b o e h1 h2 => y b o (x b o e h1 h2) h1 h2
theorem Same.kp {a c : Addr} {H H' : Hp} (s : Same H H') : Kp a c H H' := fun b o e _ _ => s b o e
theorem Src.same {H H' : Hp} {a c : Addr} {T : Nat} (x : Src H a c T) (s : Same H H') : Src H' a c T := by
  obtain ⟨cs, t, h1, h2, r⟩ := x
  exact ⟨cs, t, s _ _ h1, s _ _ h2, r⟩
theorem Src.mono {H : Hp} {a c : Addr} {T T' : Nat} (x : Src H a c T) (h : T ≤ T') : Src H a c T' := by
  obtain ⟨cs, t, h1, h2, h3, h4, h5, h6, h7⟩ := x
  exact ⟨cs, t, h1, h2, h3, h4, h5, h6, by omega⟩
theorem Src.ne {H : Hp} {a c p : Addr} {T : Nat} {o s : Int} {m : Md} (x : Src H a c T) (h : SideAt H p o s m) : p ≠ a ∧ p ≠ c := by
  obtain ⟨cs, t, h1, h2, _⟩ := x
  exact ⟨ne_of h h1 (by intro z; cases z), ne_of h h2 (by intro z; cases z)⟩
theorem SideAt.kp {H H' : Hp} {a c p : Addr} {T : Nat} {o s : Int} {m : Md} (h : SideAt H p o s m) (x : Src H a c T) (k : Kp a c H H') : SideAt H' p o s m := k _ _ h (x.ne h).1 (x.ne h).2
/-- what is new is no part of the source -/
theorem Src.new {H : Hp} {a c p : Addr} {T : Nat} (x : Src H a c T) (h : H p = none) : p ≠ a ∧ p ≠ c := by
  obtain ⟨cs, t, h1, h2, _⟩ := x
  exact ⟨(ne_of_none h1 h).symm, (ne_of_none h2 h).symm⟩
/-- what stood nowhere stood nowhere ahead -/
theorem Kp.free {H H' : Hp} {a c p : Addr} {T : Nat} (k : Kp a c H H') (x : Src H' a c T) (h : H' p = none) : H p = none := by
  cases q : H p with
  | none => rfl
  | some o =>
    have := k p o q (x.new h).1 (x.new h).2
    rw [this] at h
    cases h
section
variable {P : Program} {w : World} {K : PySem.W.Frag} {mg : Str → Option Value} {base : Heap}
def spDraw : Sp := fun vs H Q _ => ∃ (a c : Addr) (T : Nat) (lim : Int), vs = [.ref a, .int lim] ∧ Src H a c T ∧ T < 2 ^ 60 ∧ 1 ≤ lim ∧ lim ≤ 1000 ∧
  ∀ r H', 0 ≤ r → r < lim → Kp a c H H' → Src H' a c (T + 1) → Q (.int r) H'
theorem at_mod {cs : List Int} {t : Int} (h : 1 ≤ cs.length) : ∃ (j : Nat) (x : Int), t % (cs.length : Int) = (j : Int) ∧ cs[j]? = some x ∧ j < cs.length := by
  have h1 := Int.emod_nonneg t (show (cs.length : Int) ≠ 0 by omega)
  have h2 := Int.emod_lt_of_pos t (show (0 : Int) < cs.length by omega)
  have h3 : (t % (cs.length : Int)).toNat < cs.length := by omega
  exact ⟨(t % (cs.length : Int)).toNat, cs[(t % (cs.length : Int)).toNat], by omega, List.getElem?_eq_getElem h3, h3⟩
theorem ok_draw (D : All7 K mg) (T : G7 K w mg) : FnOk P w K mg base CX0 1 D.f24 D.d24 ["_law_source_here", "_law_limit"] spDraw := by
  refine D.D24.F.ok scDraw (fun vs H Q E h => ?_) (fun cdv A outer s H vs Q E hr h => ?_)
  · obtain ⟨a, c, n, lim, rfl, _⟩ := h
    rfl
  · obtain ⟨a, c, n, lim, rfl, ⟨cs, t, hA, hC, nac, h1, h63, t0, tn⟩, hn, l1, l2, q⟩ := h
    refine ⟨_, pss_cons (ps_asg (pv 0) (pg_unl (by rfl) (pgs_cons (pg_name (i := 2) scDraw.nd rfl (.inl rfl)) (pgs_cons (pg_name (i := 3) scDraw.nd rfl (.inl rfl)) pgs_nil))))
      (pss_cons (ps_set (i := 4) scDraw.nd rfl (.inl rfl) (pe_op op_mod (pe_callTy call_int1 (by rfl) T.int (by decide +kernel) (pa_cons (pv 3) pa_nil)) (pe_callB call_len_seq (by rfl) T.len PySem.boot_len (pa_cons (pv 2) pa_nil))))
      (pss_cons (ps_set (i := 5) scDraw.nd rfl (.inl rfl) (pe_ix ix_list (pv 2) (pv 4) (fun _ _ => rfl)))
      (pss_cons (ps_asg (pe_op op_add (pv 3) pe_int) (pg_sub (pv 0) pe_int set_list))
      (pss_cons (ps_if (pt_cmpR op_ge (pv 5) (pe_op op_pow pe_int pe_int) (nomark _))
        (pss_cons (ps_asg (pe_op op_fdiv (pv 5) (pv 1)) (pg_sub (pv 2) (pv 4) set_list))
        (pss_one (ps_ret (pe_op op_mod (pe_callTy call_int1 (by rfl) T.int (by decide +kernel) (pa_cons (pv 5) pa_nil)) (pv 1))))) pss_nil)
      (pss_cons (ps_set (i := 6) scDraw.nd rfl (.inl rfl) (pe_op op_mod (pe_callTy call_int1 (by rfl) T.int (by decide +kernel) (pa_cons (pe_op op_add (pe_op op_add (pe_op op_mul (pe_op op_mod (pe_callTy call_int1 (by rfl) T.int (by decide +kernel) (pa_cons (pv 5) pa_nil)) pe_int) pe_int)
          (pe_op op_mul (pe_op op_mul (pv 3) (pv 3)) pe_int)) pe_int) pa_nil)) pe_int))
      (pss_cons (ps_set (i := 6) scDraw.nd rfl (.inl rfl) (pe_op op_mod (pe_callTy call_int1 (by rfl) T.int (by decide +kernel) (pa_cons (pe_op op_mul (pv 6) (pv 6)) pa_nil)) pe_int))
      (pss_cons (ps_set (i := 6) scDraw.nd rfl (.inl rfl) (pe_op op_mod (pe_callTy call_int1 (by rfl) T.int (by decide +kernel) (pa_cons (pe_op op_mul (pv 6) (pv 6)) pa_nil)) pe_int))
      (pss_one (ps_ret (pe_op op_mod (pe_callTy call_int1 (by rfl) T.int (by decide +kernel) (pa_cons (pv 6) pa_nil)) (pv 1))))))))))), ?_⟩
    obtain ⟨j, x, ej, hx, hj⟩ := at_mod (t := t) h1
    have hxV : (cs.map V.int)[j]? = some (.int x) := by
      rw [List.getElem?_map, hx]
      rfl
    -- cells, turn = source
    refine ⟨_, rfl, a, _, rfl, SqL.of hA, rfl, _, _, rfl, _, _, rfl, rfl, ?_⟩
    -- place
    refine ⟨_, rfl, .inl ⟨_, rfl, _, rfl, c, cs.map V.int, rfl, .inl (SqL.of hC), _, _, rfl, rfl, (by rw [List.length_map]; omega), ?_⟩⟩
    have ej' : t % ((cs.map V.int).length : Int) = (j : Int) := by
      rw [List.length_map]
      exact ej
    -- cell
    refine ⟨_, rfl, _, rfl, c, cs.map V.int, _, .int x, rfl, rfl, SqL.of hC, at_of (j := j) ej' hxV, ?_⟩
    -- source[1] = turn + 1
    refine ⟨_, rfl, _, _, rfl, rfl, _, rfl, a, _, 1, 1, rfl, rfl, hA, rfl, ?_⟩
    have hA1 : (upd H a (.lst [.ref c, .int (t + 1)])) a = some (.lst [.ref c, .int (t + 1)]) := upd_same
    have hC1 : (upd H a (.lst [.ref c, .int (t + 1)])) c = some (.lst (cs.map V.int)) := by
      rw [upd_ne nac.symm]
      exact hC
    have kp1 : Kp a c H (upd H a (.lst [.ref c, .int (t + 1)])) := fun b o e ha _ => by
      rw [upd_ne ha]
      exact e
    show _
    refine ⟨_, rfl, _, _, rfl, rfl, ⟨by decide, by decide, by decide⟩, _, _, rfl, rfl, _, rfl, ite2 (fun _ => ?_) (fun _ => ?_)⟩
    · refine ⟨_, rfl, _, rfl, _, _, rfl, rfl, ⟨by omega, by omega⟩, _, rfl, _, rfl, c, cs.map V.int, _, j, rfl, rfl, hC1, ?_, ?_⟩
      · show ixN (cs.map V.int).length (t % ((cs.map V.int).length : Int)) = some j
        rw [ej']
        unfold ixN
        rw [if_pos (by omega), List.length_map, if_pos (by omega)]
        rfl
      refine ⟨_, rfl, .inl ⟨_, rfl, _, rfl, _, _, rfl, rfl, (by show (0 : Int) < lim; omega), ?_⟩⟩
      refine q _ _ (Int.emod_nonneg _ (by omega)) (Int.emod_lt_of_pos _ (by omega)) (fun b o e ha hc => ?_) ?_
      · rw [upd_ne hc]
        exact kp1 b o e ha hc
      · refine ⟨cs.set j (x / lim), t + 1, ?_, ?_, nac, ?_, ?_, by omega, by omega⟩
        · rw [upd_ne nac]
          exact hA1
        · rw [upd_same, List.map_set]
        · rw [List.length_set]
          exact h1
        · rw [List.length_set]
          exact h63
    · refine ⟨_, rfl, .inl ⟨_, rfl, _, _, rfl, rfl, (by show (0 : Int) < 2147483629; decide), _, _, rfl, rfl, .inr ⟨by decide, by decide⟩, _, rfl, _, rfl, _, _, rfl, rfl, .inl ⟨by omega, by omega⟩, _, _, rfl, rfl, .inr ⟨by decide, by decide⟩,
        _, _, rfl, rfl, _, _, rfl, rfl, .inl ⟨_, rfl, _, _, rfl, rfl, (by show (0 : Int) < 2147483647; decide), ?_⟩⟩⟩
      have b1 : ∀ (z : Int) {k : Int}, 0 < k → k < 2 ^ 40 → -(2 ^ 64) < z % k ∧ z % k < 2 ^ 64 := fun z k h h' => by
        have e1 := Int.emod_nonneg z (show k ≠ 0 by omega)
        have e2 := Int.emod_lt_of_pos z h
        omega
      refine ⟨_, rfl, _, rfl, _, _, rfl, rfl, .inl (b1 _ (by decide) (by decide)), .inl ⟨_, rfl, _, _, rfl, rfl, (by show (0 : Int) < 2147483629; decide), ?_⟩⟩
      refine ⟨_, rfl, _, rfl, _, _, rfl, rfl, .inl (b1 _ (by decide) (by decide)), .inl ⟨_, rfl, _, _, rfl, rfl, (by show (0 : Int) < 2147483587; decide), ?_⟩⟩
      refine ⟨_, rfl, .inl ⟨_, rfl, _, rfl, _, _, rfl, rfl, (by show (0 : Int) < lim; omega), ?_⟩⟩
      exact q _ _ (Int.emod_nonneg _ (by omega)) (Int.emod_lt_of_pos _ (by omega)) kp1 ⟨cs, t + 1, hA1, hC1, nac, h1, h63, by omega, by omega⟩
def spPick : Sp := fun vs H Q _ => ∃ (a c : Addr) (T : Nat) (l : Addr) (xs : List V), vs = [.ref a, .ref l] ∧ Src H a c T ∧ T < 2 ^ 60 ∧ H l = some (.lst xs) ∧ l ≠ a ∧ l ≠ c ∧ 1 ≤ xs.length ∧ xs.length ≤ 1000 ∧
  ∀ x H', x ∈ xs → Kp a c H H' → Src H' a c (T + 1) → Q x H'
theorem ok_pick (D : All7 K mg) (T : G7 K w mg) : FnOk P w K mg base CX0 2 D.f25 D.d25 ["_law_source_here", "_law_values"] spPick := by
  refine D.D25.F.ok scPick (fun vs H Q E h => ?_) (fun cdv A outer s H vs Q E hr h => ?_)
  · obtain ⟨a, c, n, l, xs, rfl, _⟩ := h
    rfl
  · obtain ⟨a, c, n, l, xs, rfl, hS, hn, hl, la, lc, x1, x2, q⟩ := h
    refine ⟨_, pss_one (ps_ret (pe_ix ix_list (pv 1) (pcall (ok_draw D T) D.D24 hr (pa_cons (pv 0) (pa_cons (pe_callB call_len_seq (by rfl) T.len PySem.boot_len (pa_cons (pv 1) pa_nil)) pa_nil))) (fun _ _ => rfl))), ?_⟩
    refine ⟨_, rfl, _, rfl, _, rfl, l, xs, rfl, .inl (SqL.of hl), a, c, n, _, rfl, hS, hn, by omega, by omega, fun r H' r0 r1 kp sr => ?_⟩
    obtain ⟨i, rfl⟩ : ∃ i : Nat, r = (i : Int) := ⟨r.toNat, by omega⟩
    have hi : i < xs.length := by omega
    exact ⟨l, xs, (i : Int), xs[i], rfl, rfl, SqL.of (kp _ _ hl la lc), atI_nat (List.getElem?_eq_getElem hi), q _ _ (List.getElem_mem hi) kp sr⟩
def spGreat : Sp := fun vs H Q _ => ∃ (a c : Addr) (T d : Nat) (z : Int), vs = [.ref a, .int z] ∧ z = (d : Int) ∧ Src H a c T ∧ T < 2 ^ 59 ∧ d ≤ 50 ∧
  ∀ n H', 0 ≤ n → n < 10 ^ d → Kp a c H H' → Src H' a c (T + d) → Q (.int n) H'
theorem ok_great (D : All7 K mg) (T : G7 K w mg) : FnOk P w K mg base CX0 2 D.f26 D.d26 ["_law_source_here", "_law_digits"] spGreat := by
  refine D.D26.F.ok scGreat (fun vs H Q E h => ?_) (fun cdv A outer s H vs Q E hr h => ?_)
  · obtain ⟨a, c, n, d, z, rfl, _⟩ := h
    rfl
  · obtain ⟨a, c, n, d, z, rfl, rfl, hS, hn, hd, q⟩ := h
    refine ⟨_, pss_cons (ps_set (i := 2) scGreat.nd rfl (.inl rfl) pe_int)
      (pss_cons (ps_for PassesOwn.never rfl (pi_range1 (by rfl) T.range (pa_cons (pv 1) pa_nil)) (pg_name (i := 3) scGreat.nd rfl (.inl rfl))
        (pss_one (ps_set (i := 2) scGreat.nd rfl (.inl rfl) (pe_op op_add (pe_op op_mul (pv 2) pe_int) (pcall (ok_draw D T) D.D24 hr (pa_cons (pv 0) (pa_cons pe_int pa_nil)))))))
      (pss_one (ps_ret (pv 2)))), ?_⟩
    refine ⟨_, rfl, (d : Int), rfl, by omega, by omega, for_range (lo := 0) (n := ((d : Int)).toNat) (fun i σ H' => ∃ (x : Int) (v : Option V), σ = [some (.ref a), some (.int (d : Int)), some (.int x), v] ∧ 0 ≤ x ∧ x < 10 ^ i ∧ Kp a c H H' ∧ Src H' a c (n + i))
      ⟨0, none, rfl, by omega, by decide, Kp.refl _ _ _, hS⟩ (fun i σ H1 hi hP => ?_) (fun σ H1 hP => ?_)⟩
    · obtain ⟨x, v, rfl, x0, x1, kp, sr⟩ := hP
      have hi' : i < d := by omega
      refine ⟨_, rfl, _, _, rfl, rfl, .inr ⟨by decide, by decide⟩, _, rfl, a, c, n + i, 10, rfl, sr, by omega, by omega, by omega, fun r H2 r0 r1 kp2 sr2 => ?_⟩
      refine ⟨_, _, rfl, rfl, x * 10 + r, _, rfl, by omega, ?_, kp.trans kp2, sr2⟩
      rw [Int.pow_succ]
      omega
    · obtain ⟨x, v, rfl, x0, x1, kp, sr⟩ := hP
      have e : ((d : Int)).toNat = d := Int.toNat_natCast d
      rw [e] at x1 sr
      exact ⟨_, rfl, q x H1 x0 x1 kp sr⟩
end
end K7
namespace K7
open PySem PySem.Spec PyProof.Rows L2
theorem scFigL : FnScope ["_law_side_here", "_law_value", "_law_offset", "_law_step", "_law_mode", "_law_low", "_law_rest"] ["_law_side_here", "_law_value"] (defScope sFigL) := ⟨rfl, rfl, rfl, by decide +kernel, rfl, by decide +kernel, by decide +kernel⟩
theorem scHndL : FnScope ["_law_side_here", "_law_value"] ["_law_side_here", "_law_value"] (defScope sHndL) := ⟨rfl, rfl, rfl, by decide +kernel, rfl, by decide +kernel, by decide +kernel⟩
/-- a power of a great number -/
def CPowB (i j : Int) : Prop := 0 ≤ j ∧ (Builtin.Int.intBits i : Int) * j ≤ 2 ^ 27
theorem op_powB {X : Cx} : OpR X (binaryOp .Pow) (rI CPowB fun i j => .int (i ^ j.toNat)) := opI fun _ _ _ _ _ _ _ hc q => pow_int hc.1 hc.2 q
theorem pow60 : CPowB ((10 : Int) ^ (60 : Int).toNat) 20 := by
  constructor <;> decide +kernel
section
variable {P : Program} {w : World} {K : PySem.W.Frag} {mg : Str → Option Value} {base : Heap}
theorem dpAll_ints {H : Hp} : ∀ ns : List Int, DpAll K H (ns.map V.int) (ns.map PyData.int)
  | [] => .nil
  | n :: r => .cons (.int n) (dpAll_ints r)
def spSrc (K : PySem.W.Frag) : Sp := fun vs H Q _ => ∃ (a0 : Addr) (ns : List Int), vs = [.ref a0] ∧ SqL K H a0 (ns.map V.int) ∧ ns.length ≤ 63 ∧ ∀ a c H', Same H H' → Src H' a c 0 → Q (.ref a) H'
theorem cut63 {ns : List Int} (h : ns.length ≤ 63) : cutV (ns.map V.int) none (some 63) = ns.map V.int := by
  unfold cutV
  rw [HT.sIx_none, show HT.sIx (ns.map V.int).length (ns.map V.int).length (some 63) = min 63 (ns.map V.int).length from HT.sIx_nat _ _ 63]
  rw [List.length_map, List.drop_zero, Nat.min_eq_right h, Nat.sub_zero]
  exact List.take_of_length_le (by rw [List.length_map]; exact Nat.le_refl _)
theorem ok_src (D : All7 K mg) (T : G7 K w mg) : FnOk P w K mg base CX0 1 D.f23 D.d23 ["_law_script"] (spSrc K) := by
  refine D.D23.F.ok scSrc (fun vs H Q E h => ?_) (fun cdv A outer s H vs Q E hr h => ?_)
  · obtain ⟨a0, ns, rfl, _⟩ := h
    rfl
  · obtain ⟨a0, ns, rfl, hS, h63, q⟩ := h
    refine ⟨_, pss_cons (ps_set (i := 1) scSrc.nd rfl (.inl rfl) (pe_slice sl_list (pv 0) po_none (po_some pe_int)))
      (pss_cons (ps_for PassesOwn.never rfl (pi_range1 (by rfl) T.range (pa_cons (pe_callB call_len_seq (by rfl) T.len PySem.boot_len (pa_cons (pv 1) pa_nil)) pa_nil)) (pg_name (i := 2) scSrc.nd rfl (.inl rfl))
        (pss_one (ps_if (pt_cmpR op_ge (pe_callB call_abs (by rfl) T.abs (by decide +kernel) (pa_cons (pe_ix ix_list (pv 1) (pv 2) (fun _ _ => rfl)) pa_nil)) (pe_op op_pow pe_int pe_int) (nomark _))
          (pss_one (ps_asg (pe_op op_mod (pe_callTy call_int1 (by rfl) T.int (by decide +kernel) (pa_cons (pe_ix ix_list (pv 1) (pv 2) (fun _ _ => rfl)) pa_nil)) (pe_op op_powB (pe_op op_pow pe_int pe_int) pe_int)) (pg_sub (pv 1) (pv 2) set_list))) pss_nil)))
      (C8.pss_cut (ps_if (pt_cmpR (op_eqD hr.units) (pv 1) (pe_lst pa_nil) (nomark _)) (pss_one (ps_set (i := 1) scSrc.nd rfl (.inl rfl) (pe_lst (pa_cons pe_int pa_nil)))) pss_nil)
      (pss_one (ps_ret (pe_lst (pa_cons (pv 1) (pa_cons pe_int pa_nil))))))), ?_⟩
    refine ⟨_, rfl, 63, rfl, a0, _, rfl, hS, fun L nL => ?_⟩
    rw [cut63 h63]
    refine ⟨_, rfl, L, _, rfl, .inl (SqL.of upd_same), ?_⟩
    refine ⟨(ns.length : Int), by rw [List.length_map], by omega, by omega, for_range (lo := 0) (n := ((ns.length : Int)).toNat) (fun i σ H' => ∃ (cs : List Int) (v : Option V), σ = [some (.ref a0), some (.ref L), v] ∧ Same H H' ∧ H' L = some (.lst (cs.map V.int)) ∧ cs.length = ns.length)
      ⟨ns, none, rfl, same_upd nL, upd_same, rfl⟩ (fun i σ H1 hi hP => ?_) (fun σ H1 hP => ?_)⟩
    · obtain ⟨cs, v, rfl, sm, hL, el⟩ := hP
      have hi' : i < cs.length := by omega
      have hx : (cs.map V.int)[i]? = some (.int cs[i]) := by
        rw [List.getElem?_map, List.getElem?_eq_getElem hi']
        rfl
      have ei : (0 : Int) + (i : Int) = (i : Int) := by omega
      refine ⟨_, rfl, _, rfl, L, _, _, .int cs[i], rfl, rfl, SqL.of hL, at_of (j := i) ei hx, _, rfl, _, _, rfl, rfl, ⟨by decide, by decide, by decide⟩, _, _, rfl, rfl, _, rfl, ite2 (fun _ => ?_) (fun _ => ?_)⟩
      · refine ⟨_, rfl, _, rfl, L, _, _, .int cs[i], rfl, rfl, SqL.of hL, at_of (j := i) ei hx, .inl ⟨_, rfl, _, _, rfl, rfl, ⟨by decide, by decide, by decide⟩, _, _, rfl, rfl, pow60, _, _, rfl, rfl, ?_, ?_⟩⟩
        · exact Int.pow_pos (Int.pow_pos (by decide))
        refine ⟨_, rfl, _, rfl, L, cs.map V.int, _, i, rfl, rfl, hL, ?_, ?_⟩
        · show ixN (cs.map V.int).length ((0 : Int) + (i : Int)) = some i
          rw [ei]
          unfold ixN
          rw [if_pos (by omega), List.length_map, if_pos (by omega)]
          rfl
        · refine ⟨cs.set i (cs[i] % ((10 ^ Int.toNat 60) ^ Int.toNat 20)), _, rfl, fun b o hb => ?_, ?_, ?_⟩
          · rw [upd_ne (ne_of_none hb nL)]
            exact sm _ _ hb
          · rw [upd_same, List.map_set]
          · rw [List.length_set]
            exact el
      · exact ⟨cs, _, rfl, sm, hL, el⟩
    · obtain ⟨cs, v, rfl, sm, hL, el⟩ := hP
      refine ⟨fun σ H' => ∃ (L : Addr) (cs : List Int), σ = [some (.ref a0), some (.ref L), v] ∧ Same H H' ∧ H L = none ∧ H' L = some (.lst (cs.map V.int)) ∧ 1 ≤ cs.length ∧ cs.length ≤ 63, ?_, ?_⟩
      · refine ⟨_, rfl, Nat.zero_le _, fun p np => ?_⟩
        have hL2 : (upd H1 p (.lst [])) L = some (.lst (cs.map V.int)) := (same_upd np) _ _ hL
        refine ⟨.list (cs.map PyData.int), .list [], .lst (SqL.of hL2) (dpAll_ints cs), .lst (SqL.of upd_same) .nil, PySem.W.shaped_ints cs, PySem.W.shaped_ints [], _, rfl, ?_⟩
        cases cs with
        | nil =>
          refine iteY rfl ?_
          refine ⟨by decide, fun p2 np2 => ⟨p2, [0], rfl, (sm.trans (same_upd np)).trans (same_upd np2), (sm.trans (same_upd np)).free np2, upd_same, by decide, by decide⟩⟩
        | cons x r =>
          refine iteN rfl ?_
          exact ⟨L, x :: r, rfl, sm.trans (same_upd np), nL, hL2, Nat.succ_le_succ (Nat.zero_le _), by rw [el]; exact h63⟩
      · rintro σ H2 ⟨L2, cs2, rfl, sm2, nL2, hL2, l1, l2⟩
        refine ⟨_, rfl, (by show 2 ≤ sizeLine; decide), fun p np => ?_⟩
        refine q p L2 _ (sm2.trans (same_upd np)) ⟨cs2, 0, upd_same, ?_, ?_, l1, l2, by omega, by omega⟩
        · exact (same_upd np) _ _ hL2
        · exact (ne_of_none hL2 np).symm
/-! ### the law's own figure -/
theorem figL_small {o s v : Int} {m : Md} (ok : Ok o s) (hv : v.natAbs < 2 ^ 200) : (figL o s m v).natAbs < 2 ^ 202 := by
  rw [← fig_eq o s m v ok.s1]
  exact figF_small ok hv
theorem ok_figL (D : All7 K mg) (T : G7 K w mg) : FnOk P w K mg base CX0 1 D.f28 D.d28 ["_law_side_here", "_law_value"] (fun vs H Q _ => ∃ (p : Addr) (o s : Int) (m : Md) (v : Int), vs = [.ref p, .int v] ∧ SideAt H p o s m ∧ Ok o s ∧ v.natAbs < 2 ^ 200 ∧ Q (.int (figL o s m v)) H) := by
  refine D.D28.F.ok scFigL (fun vs H Q E h => ?_) (fun cdv A outer s H vs Q E hr h => ?_)
  · obtain ⟨p, o, s, m, v, rfl, _⟩ := h
    rfl
  · obtain ⟨p, o, st, m, v, rfl, hT, ok, hv, q⟩ := h
    have hS : SqT K H p (sd o st m) := SqT.of hT
    refine ⟨_, pss_cons (ps_asg (pv 0) (pg_tup (by rfl) (pgs_cons (pg_name (i := 2) scFigL.nd rfl (.inl rfl)) (pgs_cons (pg_name (i := 3) scFigL.nd rfl (.inl rfl)) (pgs_cons (pg_name (i := 4) scFigL.nd rfl (.inl rfl)) pgs_nil)))))
      (pss_cons (ps_set (i := 5) scFigL.nd rfl (.inl rfl) (pe_op op_fdivW (pe_callTy call_int1 (by rfl) T.int (by decide +kernel) (pa_cons (pe_op op_sub (pv 1) (pv 2)) pa_nil)) (pv 3)))
      (pss_cons (ps_set (i := 6) scFigL.nd rfl (.inl rfl) (pe_op op_sub (pe_op op_sub (pv 1) (pv 2)) (pe_op op_mulW (pv 3) (pv 5))))
      (pss_cons (ps_if (PW.pt (pw_or (pt_cmpR op_eq (pv 4) pe_str (nomark _)) (pw_or1 (pt_cmpR op_eq (pv 6) pe_int (nomark _))))) (pss_one (ps_ret (pv 5))) pss_nil)
      (pss_cons (ps_if (PW.pt (pw_or (pt_cmpR op_eq (pv 4) pe_str (nomark _)) (pw_or1 (pt_cmpR op_gt (pe_op op_mul pe_int (pv 6)) (pv 3) (nomark _))))) (pss_one (ps_ret (pe_op op_add (pv 5) pe_int))) pss_nil)
      (pss_cons (ps_if (PW.pt (pw_or (pt_cmpR op_lt (pe_op op_mul pe_int (pv 6)) (pv 3) (nomark _)) (pw_or1 (pt_cmpR op_eq (pv 4) pe_str (nomark _))))) (pss_one (ps_ret (pv 5))) pss_nil)
      (pss_one (ps_ret (pe_op op_add (pv 5) (pe_callTy call_int1 (by rfl) T.int (by decide +kernel) (pa_cons (pe_or (pe_cmpR op_eq (pv 4) pe_str (nomark _)) (pe_one (pe_cmpR op_eq (pe_op op_mod (pv 5) pe_int) pe_int (nomark _)))) pa_nil)))))))))), ?_⟩
    refine ⟨_, rfl, p, _, rfl, hS, rfl, _, _, rfl, _, _, rfl, _, _, rfl, rfl, ?_⟩
    refine ⟨_, rfl, _, rfl, _, _, rfl, rfl, .inl ⟨_, rfl, _, rfl, _, _, rfl, rfl, wide_div (by have := ok.s1; omega) ok.sb (by decide) (by decide), ?_⟩⟩
    refine ⟨_, rfl, _, rfl, _, _, rfl, rfl, _, rfl, _, rfl, _, _, rfl, rfl, wide_mul ok.sb (fig_small ok hv) (by decide) (by decide) (by decide), _, _, rfl, rfl, ?_⟩
    unfold figL at q
    unfold figR at q
    have r1 : (m = .dn ∨ (v - o - st * ((v - o) / st)) = 0) → Q (.int ((v - o) / st)) H := fun z => by
      rw [if_pos z] at q
      exact q
    refine ⟨_, rfl, rfl, _, rfl, ite2 (fun e => iteT ⟨_, rfl, r1 (.inl (md_inj (n := .dn) (of_decide_eq_true e)))⟩) (fun e1 => ?_)⟩
    refine ⟨_, rfl, rfl, _, rfl, ite2 (fun e => ⟨_, rfl, r1 (.inr (V.int.inj (of_decide_eq_true e)))⟩) (fun e2 => ?_)⟩
    have n1 : ¬ (m = .dn ∨ (v - o - st * ((v - o) / st)) = 0) := fun z => z.elim (fun z => e1 (decide_eq_true (by rw [z]; rfl))) (fun z => e2 (decide_eq_true (congrArg V.int z)))
    rw [if_neg n1] at q
    have r2 : (m = .up ∨ st < 2 * (v - o - st * ((v - o) / st))) → Q (.int (((v - o) / st) + 1)) H := fun z => by
      rw [if_pos z] at q
      exact q
    refine ⟨_, rfl, rfl, _, rfl, ite2 (fun e => iteT ⟨_, rfl, _, _, rfl, rfl, r2 (.inl (md_inj (n := .up) (of_decide_eq_true e)))⟩) (fun e3 => ?_)⟩
    refine ⟨_, rfl, _, _, rfl, rfl, .inl ⟨by decide, by decide⟩, _, rfl, _, _, rfl, rfl, _, rfl, ite2 (fun e => ⟨_, rfl, _, _, rfl, rfl, r2 (.inr (of_decide_eq_true e))⟩) (fun e4 => ?_)⟩
    have n2 : ¬ (m = .up ∨ st < 2 * (v - o - st * ((v - o) / st))) := fun z => z.elim (fun z => e3 (decide_eq_true (by rw [z]; rfl))) (fun z => e4 (decide_eq_true z))
    rw [if_neg n2] at q
    have r3 : (2 * (v - o - st * ((v - o) / st)) < st ∨ m = .hd) → Q (.int ((v - o) / st)) H := fun z => by
      rw [if_pos z] at q
      exact q
    refine ⟨_, rfl, _, _, rfl, rfl, .inl ⟨by decide, by decide⟩, _, rfl, _, _, rfl, rfl, _, rfl, ite2 (fun e => iteT ⟨_, rfl, r3 (.inl (of_decide_eq_true e))⟩) (fun e5 => ?_)⟩
    refine ⟨_, rfl, rfl, _, rfl, ite2 (fun e => ⟨_, rfl, r3 (.inr (md_inj (n := .hd) (of_decide_eq_true e)))⟩) (fun e6 => ?_)⟩
    have n3 : ¬ (2 * (v - o - st * ((v - o) / st)) < st ∨ m = .hd) := fun z => z.elim (fun z => e5 (decide_eq_true z)) (fun z => e6 (decide_eq_true (by rw [z]; rfl)))
    rw [if_neg n3] at q
    have r4 : (m = .hu ∨ ((v - o) / st) % 2 = 1) → Q (.int (((v - o) / st) + 1)) H := fun z => by
      rw [if_pos z] at q
      exact q
    refine ⟨_, rfl, _, rfl, rfl, _, rfl, ite2 (fun e => .inr ⟨true, rfl, _, _, rfl, rfl, r4 (.inl (md_inj (n := .hu) (of_decide_eq_true e)))⟩) (fun e7 => ?_)⟩
    refine ⟨_, rfl, _, _, rfl, rfl, (by show (0 : Int) < 2; decide), rfl, ?_⟩
    by_cases e8 : ((v - o) / st) % 2 = 1
    · rw [decide_eq_true (congrArg V.int e8)]
      exact .inr ⟨true, rfl, _, _, rfl, rfl, r4 (.inr e8)⟩
    · rw [decide_eq_false (fun z => e8 (V.int.inj z))]
      have n4 : ¬ (m = .hu ∨ ((v - o) / st) % 2 = 1) := fun z => z.elim (fun z => e7 (decide_eq_true (by rw [z]; rfl))) e8
      rw [if_neg n4] at q
      refine .inr ⟨false, rfl, _, _, rfl, rfl, ?_⟩
      show Q (.int (((v - o) / st) + 0)) H
      rw [Int.add_zero]
      exact q
theorem ok_hndL (D : All7 K mg) (T : G7 K w mg) : FnOk P w K mg base CX0 2 D.f29 D.d29 ["_law_side_here", "_law_value"] spHnd := by
  refine D.D29.F.ok scHndL (fun vs H Q E h => ?_) (fun cdv A outer s H vs Q E hr h => ?_)
  · obtain ⟨p, o, s, m, k, rfl, _⟩ := h
    rfl
  · obtain ⟨p, o, st, m, v, rfl, hT, ok, hv, q⟩ := h
    have hS : SqT K H p (sd o st m) := SqT.of hT
    refine ⟨_, pss_one (ps_ret (pe_op op_add (pe_ix ix_tup (pv 0) pe_int (fun _ _ => rfl)) (pe_op op_mulW (pe_ix ix_tup (pv 0) pe_int (fun _ _ => rfl)) (pcall (ok_figL D T) D.D28 hr (pa_cons (pv 0) (pa_cons (pv 1) pa_nil)))))), ?_⟩
    exact ⟨_, rfl, p, _, _, _, rfl, rfl, hS, atI_nat (j := 0) rfl, _, rfl, p, _, _, _, rfl, rfl, hS, atI_nat (j := 1) rfl, _, rfl, _, rfl, p, o, st, m, v, rfl, hT, ok, hv,
      _, _, rfl, rfl, wide_mul ok.sb (figL_small ok hv) (by decide) (by decide) (by decide), _, _, rfl, rfl, q⟩
/-! ### a drawn side -/
def spSide : Sp := fun vs H Q _ => ∃ (a c : Addr) (T : Nat), vs = [.ref a, .int 39] ∧ Src H a c T ∧ T < 2 ^ 50 ∧
  ∀ o s m p H', -(10 ^ 39) ≤ o → o ≤ 10 ^ 39 → Ok o s → Kp a c H H' → Src H' a c (T + 90) → H p = none → SideAt H' p o s m → Q (.ref p) H'
theorem pow_mono {d e : Nat} (h : d ≤ e) : (10 : Int) ^ d ≤ 10 ^ e := by
  have a : ∀ k : Nat, (10 : Int) ^ k = ((10 ^ k : Nat) : Int) := fun k => by
    rw [Int.natCast_pow]
    rfl
  rw [a, a]
  exact Int.ofNat_le.mpr (Nat.pow_le_pow_right (by decide) h)
theorem pow39 {d : Nat} {n : Int} (h : n < 10 ^ d) (hd : d ≤ 39) : n < 10 ^ 39 := Int.lt_of_lt_of_le h (pow_mono hd)
theorem ok_side (D : All7 K mg) (T : G7 K w mg) : FnOk P w K mg base CX0 3 D.f27 D.d27 ["_law_source_here", "_law_digits"] spSide := by
  refine D.D27.F.ok scSide (fun vs H Q E h => ?_) (fun cdv A outer s H vs Q E hr h => ?_)
  · obtain ⟨a, c, n, rfl, _⟩ := h
    rfl
  · obtain ⟨a, c, n, rfl, hS, hn, q⟩ := h
    have hr1 : Room 1 _ := hr.mono (by decide)
    refine ⟨_, pss_cons (ps_set (i := 2) scSide.nd rfl (.inl rfl) (pe_op op_add pe_int (pe_op op_mod (pcall (ok_great D T) D.D26 hr (pa_cons (pv 0) (pa_cons (pe_op op_add pe_int (pcall (ok_draw D T) D.D24 hr1 (pa_cons (pv 0) (pa_cons (pv 1) pa_nil)))) pa_nil))) (pe_op op_pow pe_int pe_int))))
      (C8.pss_cut (ps_if (pt_cmpR op_eq (pcall (ok_draw D T) D.D24 hr1 (pa_cons (pv 0) (pa_cons pe_int pa_nil))) pe_int (nomark _))
        (pss_one (ps_set (i := 2) scSide.nd rfl (.inl rfl) (pe_op op_add pe_int (pcall (ok_draw D T) D.D24 hr1 (pa_cons (pv 0) (pa_cons pe_int pa_nil)))))) pss_nil)
      (pss_cons (ps_set (i := 3) scSide.nd rfl (.inl rfl) (pe_op op_mul (pcall (ok_great D T) D.D26 hr (pa_cons (pv 0) (pa_cons (pe_op op_add pe_int (pcall (ok_draw D T) D.D24 hr1 (pa_cons (pv 0) (pa_cons (pv 1) pa_nil)))) pa_nil)))
        (pcall (ok_pick D T) D.D25 hr (pa_cons (pv 0) (pa_cons (pe_lst (pa_cons pe_int (pa_cons (pe_un un_neg pe_int) (pa_cons pe_int pa_nil)))) pa_nil)))))
      (pss_one (ps_ret (pe_tup (pa_cons (pv 3) (pa_cons (pv 2) (pa_cons (pcall (ok_pick D T) D.D25 hr (pa_cons (pv 0) (pa_cons (pe_lst (pa_cons pe_str (pa_cons pe_str (pa_cons pe_str (pa_cons pe_str (pa_cons pe_str pa_nil)))))) pa_nil))) pa_nil)))))))), ?_⟩
    -- the step
    refine ⟨_, rfl, _, rfl, _, rfl, a, c, n, 39, rfl, hS, by omega, by decide, by decide, fun r H1 r0 r1 k1 s1 => ?_⟩
    refine ⟨_, _, rfl, rfl, a, c, n + 1, (1 + r).toNat, _, rfl, by omega, s1, by omega, by omega, fun x H2 x0 x1 k2 s2 => ?_⟩
    refine ⟨_, _, rfl, rfl, ⟨by decide, by decide, by decide⟩, _, _, rfl, rfl, Int.pow_pos (by decide), _, _, rfl, rfl, ?_⟩
    have m0 := Int.emod_nonneg x (show (10 : Int) ^ (30 : Int).toNat ≠ 0 by decide)
    have m1 := Int.emod_lt_of_pos x (show (0 : Int) < (10 : Int) ^ (30 : Int).toNat by decide)
    have m2 : (10 : Int) ^ (30 : Int).toNat = 10 ^ 30 := rfl
    rw [m2] at m0 m1
    refine ⟨fun σ H' => ∃ st : Int, σ = [some (.ref a), some (.int 39), some (.int st), none] ∧ 1 ≤ st ∧ st ≤ 10 ^ 30 ∧ Kp a c H H' ∧ Src H' a c (n + 42), ?_, ?_⟩
    · refine ⟨_, rfl, a, c, n + 1 + (1 + r).toNat, 3, rfl, s2, by omega, by decide, by decide, fun r2 H3 _ _ k3 s3 => ⟨rfl, _, rfl, ?_⟩⟩
      refine ite2 (fun _ => ?_) (fun _ => ?_)
      · refine ⟨_, rfl, a, c, n + 1 + (1 + r).toNat + 1, 12, rfl, s3, by omega, by decide, by decide, fun r4 H4 r40 r41 k4 s4 => ⟨_, _, rfl, rfl, 1 + r4, rfl, by omega, by omega, ((k1.trans k2).trans k3).trans k4, s4.mono (by omega)⟩⟩
      · exact ⟨_, rfl, by rw [m2]; omega, by rw [m2]; omega, (k1.trans k2).trans k3, s3.mono (by omega)⟩
    rintro σ H3 ⟨st, rfl, st1, st2, k3, s3⟩
    -- the offset
    refine ⟨_, rfl, _, rfl, _, rfl, a, c, n + 42, 39, rfl, s3, by omega, by decide, by decide, fun r2 H4 r20 r21 k4 s4 => ?_⟩
    refine ⟨_, _, rfl, rfl, a, c, n + 43, (1 + r2).toNat, _, rfl, by omega, s4, by omega, by omega, fun y H5 y0 y1 k5 s5 => ?_⟩
    have y2 := pow39 y1 (by omega)
    refine ⟨_, rfl, 1, rfl, by decide, fun l nl => ?_⟩
    have nl5 := s5.new nl
    have s5' := s5.same (same_upd (o := .lst [.int 1, .int (-1), .int 0]) nl)
    refine ⟨a, c, _, l, [.int 1, .int (-1), .int 0], rfl, s5', by omega, upd_same, nl5.1, nl5.2, by decide, by decide, fun z H6 hz k6 s6 => ?_⟩
    have hz' : ∃ g : Int, z = .int g ∧ -1 ≤ g ∧ g ≤ 1 ∧ -(10 ^ 39) ≤ y * g ∧ y * g ≤ 10 ^ 39 := by
      simp at hz
      rcases hz with rfl | rfl | rfl
      · exact ⟨1, rfl, by decide, by decide, by omega, by omega⟩
      · exact ⟨-1, rfl, by decide, by decide, by omega, by omega⟩
      · exact ⟨0, rfl, by decide, by decide, by omega, by omega⟩
    obtain ⟨g, rfl, g1, g2, o1, o2⟩ := hz'
    refine ⟨_, _, rfl, rfl, .inr ⟨by omega, by omega⟩, ?_⟩
    -- the tuple
    refine ⟨_, rfl, _, rfl, _, rfl, by decide, fun l2 nl2 => ?_⟩
    have nl6 := s6.new nl2
    have s6' := s6.same (same_upd (o := .lst [.str "down", .str "up", .str "half_down", .str "half_up", .str "half_even"]) nl2)
    refine ⟨a, c, _, l2, [.str "down", .str "up", .str "half_down", .str "half_up", .str "half_even"], rfl, s6', by omega, upd_same, nl6.1, nl6.2, by decide, by decide, fun z H7 hz k7 s7 => ?_⟩
    have hz' : ∃ m : Md, z = mv m := by
      simp at hz
      rcases hz with rfl | rfl | rfl | rfl | rfl
      · exact ⟨.dn, rfl⟩
      · exact ⟨.up, rfl⟩
      · exact ⟨.hd, rfl⟩
      · exact ⟨.hu, rfl⟩
      · exact ⟨.he, rfl⟩
    obtain ⟨m, rfl⟩ := hz'
    have kA : Kp a c H H7 := ((((((k3.trans k4).trans k5).trans (Same.kp (same_upd nl))).trans k6).trans (Same.kp (same_upd nl2)))).trans k7
    refine ⟨(by show 3 ≤ sizeLine; decide), fun p np => ?_⟩
    exact q (y * g) st m p _ o1 o2 ⟨by omega, by omega, st1, st2⟩ (kA.trans (Same.kp (same_upd np))) ((s7.same (same_upd np)).mono (by omega)) (kA.free s7 np) upd_same
end
end K7
namespace K7
open PySem PySem.Spec PyProof.Rows L2
theorem scMF : FnScope ["_law_one", "_law_value", "_law_other", "_law_words"] ["_law_one", "_law_value"] (defScope sMF) := ⟨rfl, rfl, rfl, by decide +kernel, rfl, by decide +kernel, by decide +kernel⟩
theorem scFF : FnScope ["_law_one", "_law_values", "_law_found", "_law_modes", "_law_most", "_law_value"] ["_law_one", "_law_values"] (defScope sFF) := ⟨rfl, rfl, rfl, by decide +kernel, rfl, by decide +kernel, by decide +kernel⟩
/-! ### sides as data -/
def sdD (o s : Int) (m : Md) : PyData := .tuple [.int o, .int s, .str m.str]
theorem str_beq (m n : Md) : (m.str == n.str) = decide (m = n) := by cases m <;> cases n <;> decide +kernel
theorem dec_md (m n : Md) : decide (V.str m.str = V.str n.str) = decide (m = n) := by
  by_cases h : m = n
  · rw [h, decide_eq_true rfl, decide_eq_true rfl]
  · rw [decide_eq_false h, decide_eq_false (fun z => h (md_inj z))]
theorem eqV_md (m n : Md) : eqV (mv m) (mv n) = decide (m = n) := by cases m <;> cases n <;> decide +kernel
theorem eqv_sd (o s o' s' : Int) (m m' : Md) : PyData.eqv (sdD o s m) (sdD o' s' m') = decide (o = o' ∧ s = s' ∧ m = m') := by
  have e : PyData.eqv (sdD o s m) (sdD o' s' m') = ((o == o') && ((s == s') && ((m.str == m'.str) && true))) := by
    simp [sdD, PyData.eqv, PyData.eqvAll]
  rw [e, str_beq, Bool.and_true]
  by_cases h1 : o = o' <;> by_cases h2 : s = s' <;> by_cases h3 : m = m' <;> simp [h1, h2, h3]
theorem shaped_sd (o s : Int) (m : Md) : SeqAt.shaped (sdD o s m) = true := by
  have h : PyData.strOk m.str = true := by cases m <;> decide +kernel
  simp [SeqAt.shaped, sdD, PyData.canLay0, PyData.canLayAll0, PyData.depth, PyData.depthAll, h]
theorem SideAt.dp {K : PySem.W.Frag} {H : Hp} {p : Addr} {o s : Int} {m : Md} (h : SideAt H p o s m) : Dp K H (.ref p) (sdD o s m) := .tup (SqT.of h) (.cons (.int _) (.cons (.int _) (.cons (.str _) .nil)))
/-! ### words by their places -/
def wordsM : List Md := [.dn, .hd, .he, .hu, .up]
def wpos : Md → Nat
  | .dn => 0 | .hd => 1 | .he => 2 | .hu => 3 | .up => 4
theorem words_at (m : Md) : (wordsM.map mv)[wpos m]? = some (mv m) := by cases m <;> rfl
theorem words_rev (m : Md) : (wordsM.map mv).reverse[wpos m]? = some (mv m.mir) := by cases m <;> rfl
theorem map_get {xs : List Md} {k : Nat} {z : V} (h : (xs.map mv)[k]? = some z) : ∃ μ, xs[k]? = some μ ∧ z = mv μ := by
  rw [List.getElem?_map] at h
  cases e : xs[k]? with
  | none => rw [e] at h; cases h
  | some μ => rw [e] at h; exact ⟨μ, rfl, (Option.some.inj h).symm⟩
theorem words_no (m : Md) (k : Nat) (z : V) (hk : k < wpos m) (h : (wordsM.map mv)[k]? = some z) : eqV z (mv m) = false := by
  obtain ⟨μ, h1, rfl⟩ := map_get h
  rw [eqV_md]
  cases m <;> simp [wpos] at hk <;> (have : k = 0 ∨ k = 1 ∨ k = 2 ∨ k = 3 := by omega) <;> rcases this with rfl | rfl | rfl | rfl <;> first | omega | (cases h1; rfl)
theorem words_flat : (wordsM.map mv).all flatV = true := by decide +kernel
theorem five_at (m : Md) : (five.map mv)[m.ix]? = some (mv m) := by cases m <;> rfl
theorem five_no (m : Md) (k : Nat) (z : V) (hk : k < m.ix) (h : (five.map mv)[k]? = some z) : eqV z (mv m) = false := by
  obtain ⟨μ, h1, rfl⟩ := map_get h
  rw [eqV_md]
  cases m <;> simp [Md.ix] at hk <;> (have : k = 0 ∨ k = 1 ∨ k = 2 ∨ k = 3 := by omega) <;> rcases this with rfl | rfl | rfl | rfl <;> first | omega | (cases h1; rfl)
theorem eqV_self (m : Md) : eqV (mv m) (mv m) = true := by rw [eqV_md, decide_eq_true rfl]
theorem cut4 (m : Md) : decide (V.str (cutS m.str none (some 4)) = V.str ("half" : Str)) = decide (m = .hu ∨ m = .he ∨ m = .hd) := by cases m <;> decide +kernel
theorem md_len (m : Md) : m.str.length ≤ sizeLine := by cases m <;> decide
section
variable {P : Program} {w : World} {K : PySem.W.Frag} {mg : Str → Option Value} {base : Heap}
def spMF : Sp := fun vs H Q _ => ∃ (p : Addr) (o s : Int) (m : Md) (v : Int), vs = [.ref p, .int v] ∧ SideAt H p o s m ∧ Ok o s ∧ v.natAbs < 2 ^ 200 ∧ ∀ H', Same H H' → Q (.bl true) H'
theorem ok_MF (D : All7 K mg) (T : G7 K w mg) : FnOk P w K mg base CX0 5 D.f30 D.d30 ["_law_one", "_law_value"] spMF := by
  refine D.D30.F.ok scMF (fun vs H Q E h => ?_) (fun cdv A outer s H vs Q E hr h => ?_)
  · obtain ⟨p, o, s, m, v, rfl, _⟩ := h
    rfl
  · obtain ⟨p, o, st, m, v, rfl, hT, ok, hv, q⟩ := h
    have hr2 : Room 2 _ := hr.mono (by decide)
    have hr3 : Room 3 _ := hr.mono (by decide)
    refine ⟨_, pss_cons (ps_set (i := 2) scMF.nd rfl (.inl rfl) (pcall (ok_mirror D T) D.D18 hr (pa_cons (pv 0) pa_nil)))
      (pss_cons (ps_if (PW.pt (pw_or (pt_not (pt_val (pe_callB call_isi (by rfl) T.isi (by decide +kernel) (pa_cons (pv 2) (pa_cons (pe_bltn (v := .ty "tuple") (by rfl) T.tuple (by decide +kernel) rfl) pa_nil)))))
          (pw_or (pt_cmpR op_ne (pe_callB call_len_seq (by rfl) T.len PySem.boot_len (pa_cons (pv 2) pa_nil)) pe_int (nomark _))
          (pw_or (pt_cmpR op_ne (pe_ix ix_tup (pv 2) pe_int (fun _ _ => rfl)) (pe_un un_neg (pe_ix ix_tup (pv 0) pe_int (fun _ _ => rfl))) (nomark _))
          (pw_or1 (pt_cmpR op_ne (pe_ix ix_tup (pv 2) pe_int (fun _ _ => rfl)) (pe_ix ix_tup (pv 0) pe_int (fun _ _ => rfl)) (nomark _)))))))
        (pss_one (ps_ret pe_bl)) pss_nil)
      (pss_cons (ps_set (i := 3) scMF.nd rfl (.inl rfl) (pe_lst (pa_cons pe_str (pa_cons pe_str (pa_cons pe_str (pa_cons pe_str (pa_cons pe_str pa_nil)))))))
      (pss_cons (ps_if (pt_cmpR op_ne (pe_ix ix_tup (pv 2) pe_int (fun _ _ => rfl)) (pe_ix ix_list (pe_revL (pv 3)) (pe_bm PySem.F.plainAttrs_list PySem.F.slot_list_index PySem.F.type_list_index mt_index (pv 3) (pa_cons (pe_ix ix_tup (pv 0) pe_int (fun _ _ => rfl)) pa_nil)) (fun _ _ => rfl)) (nomark _))
        (pss_one (ps_ret pe_bl)) pss_nil)
      (pss_one (ps_ret (pe_and (pe_cmpR op_isN (pcall (ok_ckSide D T) D.D11 hr3 (pa_cons (pv 2) pa_nil)) pe_non (nomark _))
        (pe_and (pe_cmpR (op_eqD hr.units) (pcall (ok_mirror D T) D.D18 hr (pa_cons (pv 2) pa_nil)) (pv 0) (nomark _))
        (pe_one (pe_cmpR op_eq (pcall (ok_handed D T) D.D16 hr (pa_cons (pv 2) (pa_cons (pe_un un_neg (pv 1)) pa_nil))) (pe_un un_neg (pcall (ok_hndL D T) D.D29 hr2 (pa_cons (pv 0) (pa_cons (pv 1) pa_nil)))) (nomark _)))))))))), ?_⟩
    -- other = mirror(one)
    refine ⟨_, rfl, p, o, st, m, rfl, hT, ok, fun p2 np2 => ?_⟩
    have sm1 : Same H (upd H p2 (.tup (sd (-o) st m.mir))) := same_upd np2
    have hM : SideAt (upd H p2 (.tup (sd (-o) st m.mir))) p2 (-o) st m.mir := upd_same
    generalize upd H p2 (.tup (sd (-o) st m.mir)) = H1 at sm1 hM ⊢
    have hT1 : SideAt H1 p o st m := sm1 _ _ hT
    refine ⟨_, rfl, .ref p2, .ty "tuple", .type "tuple", .type "tuple", true, rfl, .ty _, .base (.tup hM), kit_ty (by decide +kernel), _, rfl, iteF ?_⟩
    refine ⟨_, rfl, p2, _, rfl, .inr (SqT.of hM), rfl, _, rfl, iteF ?_⟩
    refine ⟨_, rfl, p2, _, _, _, rfl, rfl, SqT.of hM, atI_nat (j := 0) rfl, _, rfl, p, _, _, _, rfl, rfl, SqT.of hT1, atI_nat (j := 0) rfl, _, rfl, rfl, _, rfl, iteNS rfl ?_⟩
    refine ⟨_, rfl, p2, _, _, _, rfl, rfl, SqT.of hM, atI_nat (j := 1) rfl, _, rfl, p, _, _, _, rfl, rfl, SqT.of hT1, atI_nat (j := 1) rfl, rfl, _, rfl, iteNS rfl ?_⟩
    -- words
    refine ⟨by decide, fun l nl => ?_⟩
    have sm2 : Same H1 (upd H1 l (.lst [.str "down", .str "half_down", .str "half_even", .str "half_up", .str "up"])) := same_upd nl
    have hW : (upd H1 l (.lst [.str "down", .str "half_down", .str "half_even", .str "half_up", .str "up"])) l = some (.lst (wordsM.map mv)) := upd_same
    generalize upd H1 l (.lst [.str "down", .str "half_down", .str "half_even", .str "half_up", .str "up"]) = H2 at sm2 hW ⊢
    have hT2 : SideAt H2 p o st m := sm2 _ _ hT1
    have hM2 : SideAt H2 p2 (-o) st m.mir := sm2 _ _ hM
    refine ⟨_, rfl, p2, _, _, _, rfl, rfl, SqT.of hM2, atI_nat (j := 2) rfl, _, rfl, l, wordsM.map mv, rfl, SqL.of hW, fun r nr => ?_⟩
    have sm3 : Same H2 (upd H2 r (.lst (wordsM.map mv).reverse)) := same_upd nr
    have hR : (upd H2 r (.lst (wordsM.map mv).reverse)) r = some (.lst (wordsM.map mv).reverse) := upd_same
    generalize upd H2 r (.lst (wordsM.map mv).reverse) = H3 at sm3 hR ⊢
    have hT3 : SideAt H3 p o st m := sm3 _ _ hT2
    have hM3 : SideAt H3 p2 (-o) st m.mir := sm3 _ _ hM2
    have hW3 : H3 l = some (.lst (wordsM.map mv)) := sm3 _ _ hW
    refine ⟨_, rfl, .inl ⟨rfl, _, SqL.of hW3⟩, _, rfl, p, _, _, _, rfl, rfl, SqT.of hT3, atI_nat (j := 2) rfl, l, wordsM.map mv, mv m, wpos m, mv m, rfl, rfl, SqL.of hW3, rfl, words_flat, words_at m, eqV_self m, words_no m, ?_⟩
    refine ⟨r, _, _, mv m.mir, rfl, rfl, SqL.of hR, atI_nat (words_rev m), rfl, _, rfl, iteNS rfl ?_⟩
    -- the answer
    refine ⟨_, rfl, p2, -o, st, m.mir, rfl, hM3, ok.neg, rfl, true, rfl, iteT ?_⟩
    refine ⟨_, rfl, p2, -o, st, m.mir, rfl, hM3, ok.neg, fun p4 np4 => ?_⟩
    have sm4 : Same H3 (upd H3 p4 (.tup (sd (- -o) st m.mir.mir))) := same_upd np4
    have hB : SideAt (upd H3 p4 (.tup (sd (- -o) st m.mir.mir))) p4 (- -o) st m.mir.mir := upd_same
    generalize upd H3 p4 (.tup (sd (- -o) st m.mir.mir)) = H4 at sm4 hB ⊢
    have hT4 : SideAt H4 p o st m := sm4 _ _ hT3
    have hM4 : SideAt H4 p2 (-o) st m.mir := sm4 _ _ hM3
    refine ⟨_, rfl, sdD (- -o) st m.mir.mir, sdD o st m, hB.dp, hT4.dp, shaped_sd _ _ _, shaped_sd _ _ _, true, ?_, iteT ?_⟩
    · rw [eqv_sd, decide_eq_true ⟨Int.neg_neg o, rfl, Md.mir_mir m⟩]
    refine ⟨_, rfl, _, rfl, _, rfl, p2, -o, st, m.mir, -v, rfl, hM4, ok.neg, by omega, ?_⟩
    refine ⟨_, rfl, _, rfl, p, o, st, m, v, rfl, hT4, ok, hv, _, rfl, rfl, ?_⟩
    rw [mirror_hnd o st m v ok.s1, decide_eq_true rfl]
    exact q _ ((((sm1.trans sm2).trans sm3)).trans sm4)
end
end K7
namespace K7
open PySem PySem.Spec PyProof.Rows L2
section
variable {P : Program} {w : World} {K : PySem.W.Frag} {mg : Str → Option Value} {base : Heap}
theorem fO_ok {o s : Int} (m : Md) (ok : Ok o s) : Ok (fO o s m) s := by
  have h := fO_bounds o s m ok.s1
  have h1 := ok.s1
  have h2 := ok.s2
  refine ⟨by omega, ?_, ok.s1, ok.s2⟩
  have h3 := h.2
  split at h3 <;> omega
def spFF : Sp := fun vs H Q _ => ∃ (p : Addr) (o s : Int) (m : Md) (l : Addr) (ns : List Int), vs = [.ref p, .ref l] ∧ SideAt H p o s m ∧ Ok o s ∧ H l = some (.lst (ns.map V.int)) ∧ (∀ x ∈ ns, x.natAbs < 2 ^ 200) ∧ ∀ H', Same H H' → Q (.bl true) H'
theorem ok_FF (D : All7 K mg) (T : G7 K w mg) : FnOk P w K mg base CX0 5 D.f31 D.d31 ["_law_one", "_law_values"] spFF := by
  refine D.D31.F.ok scFF (fun vs H Q E h => ?_) (fun cdv A outer s H vs Q E hr h => ?_)
  · obtain ⟨p, o, s, m, l, ns, rfl, _⟩ := h
    rfl
  · obtain ⟨p, o, st, m, l, ns, rfl, hT, ok, hL, hns, q⟩ := h
    have hr2 : Room 2 _ := hr.mono (by decide)
    refine ⟨_, pss_cons (ps_set (i := 2) scFF.nd rfl (.inr rfl) (pcall (ok_form D T) D.D21 hr (pa_cons (pv 0) pa_nil)))
      (pss_cons (ps_set (i := 3) scFF.nd rfl (.inl rfl) (pe_lst (pa_cons pe_str (pa_cons pe_str (pa_cons pe_str (pa_cons pe_str (pa_cons pe_str pa_nil)))))))
      (pss_cons (ps_if (PW.pt (pw_or (pt_not (pt_val (pe_callB call_isi (by rfl) T.isi (by decide +kernel) (pa_cons (pv 2) (pa_cons (pe_bltn (v := .ty "tuple") (by rfl) T.tuple (by decide +kernel) rfl) pa_nil)))))
          (pw_or (pt_cmpR op_ne (pe_callB call_len_seq (by rfl) T.len PySem.boot_len (pa_cons (pv 2) pa_nil)) pe_int (nomark _))
          (pw_or (pt_cmpR op_ne (pe_ix ix_tup (pv 2) pe_int (fun _ _ => rfl)) (pe_ix ix_tup (pv 0) pe_int (fun _ _ => rfl)) (nomark _))
          (pw_or1 (pt_cmpR (op_neD hr.units) (pcall (ok_form D T) D.D21 hr (pa_cons (pv 2) pa_nil)) (pv 2) (nomark _)))))))
        (pss_one (ps_ret pe_bl)) pss_nil)
      (pss_cons (ps_set (i := 4) scFF.nd rfl (.inl rfl) (pe_op op_mul (pe_ix ix_tup (pv 0) pe_int (fun _ _ => rfl)) (pe_op op_add pe_int (pe_callTy call_int1 (by rfl) T.int (by decide +kernel) (pa_cons (pe_cmpR op_eq (pe_ix ix_tup (pv 2) pe_int (fun _ _ => rfl)) pe_str (nomark _)) pa_nil)))))
      (pss_cons (ps_if (PW.pt (pw_or (pt_cmpR op_lt (pe_ix ix_tup (pv 2) pe_int (fun _ _ => rfl)) pe_int (nomark _))
          (pw_or (pt_cmpR op_ge (pe_ix ix_tup (pv 2) pe_int (fun _ _ => rfl)) (pv 4) (nomark _))
          (pw_or1 (pt_cmpR op_gt (pe_bm PySem.F.plainAttrs_list PySem.F.slot_list_index PySem.F.type_list_index mt_index (pv 3) (pa_cons (pe_ix ix_tup (pv 2) pe_int (fun _ _ => rfl)) pa_nil))
            (pe_bm PySem.F.plainAttrs_list PySem.F.slot_list_index PySem.F.type_list_index mt_index (pv 3) (pa_cons (pe_ix ix_tup (pv 0) pe_int (fun _ _ => rfl)) pa_nil)) (nomark _))))))
        (pss_one (ps_ret pe_bl)) pss_nil)
      (C8.pss_cut (ps_if (PW.pt (pw_and (pt_cmpR op_gt (pe_ix ix_tup (pv 0) pe_int (fun _ _ => rfl)) pe_int (nomark _))
          (pw_and1 (pt_cmpR op_ne (pe_ix ix_tup (pv 2) pe_int (fun _ _ => rfl)) (pe_ix ix_list (pe_lst (pa_cons (pe_ix ix_tup (pv 0) pe_int (fun _ _ => rfl)) (pa_cons pe_str pa_nil)))
            (pe_callTy call_int1 (by rfl) T.int (by decide +kernel) (pa_cons (pe_and (pe_cmpR op_eq (pe_op op_mod (pe_ix ix_tup (pv 0) pe_int (fun _ _ => rfl)) pe_int) pe_int (nomark _))
              (pe_one (pe_cmpR op_eq (pe_slice sl_str (pe_ix ix_tup (pv 0) pe_int (fun _ _ => rfl)) po_none (po_some pe_int)) pe_str (nomark _)))) pa_nil)) (fun _ _ => rfl)) (nomark _)))))
        (pss_one (ps_ret pe_bl)) pss_nil)
      (pss_one (ps_ret (pe_cmpR (op_eqD hr.units) (pe_lc (own := [("_law_value", 5)]) (g := gName 5) (by rfl) scFF.nd (pi_list (pv 1))
          (blkOk_by (own := [("_law_value", 5)]) (N := ["_law_one", "_law_values", "_law_found", "_law_modes", "_law_most", "_law_value"]) (sc := defScope sFF) (by decide +kernel))
          (fun _ _ _ _ _ => pg_name (i := 5) scFF.nd rfl (Or.inl rfl))
          (fun _ _ _ _ _ => pts_one (pt_cmpR op_ne (pcall (ok_handed D T) D.D16 hr (pa_cons (pv 2) (pa_cons (pv 5) pa_nil))) (pcall (ok_hndL D T) D.D29 hr2 (pa_cons (pv 0) (pa_cons (pv 5) pa_nil))) (nomark _)))
          (fun _ _ _ _ _ => pv 5)) (pe_lst pa_nil) (nomark _))))))))), ?_⟩
    have s1 := ok.s1
    have okF := fO_ok m ok
    have fb := fO_bounds o st m s1
    -- found = form(one)
    refine ⟨_, rfl, p, o, st, m, rfl, hT, ok, fun f H1 sm1 nf hF => ?_⟩
    have hT1 : SideAt H1 p o st m := sm1 _ _ hT
    -- modes
    refine ⟨by decide, fun k nk => ?_⟩
    have sm2 : Same H1 (upd H1 k (.lst [.str "down", .str "up", .str "half_down", .str "half_up", .str "half_even"])) := same_upd nk
    have hW : (upd H1 k (.lst [.str "down", .str "up", .str "half_down", .str "half_up", .str "half_even"])) k = some (.lst (five.map mv)) := upd_same
    generalize upd H1 k (.lst [.str "down", .str "up", .str "half_down", .str "half_up", .str "half_even"]) = H2 at sm2 hW ⊢
    have hT2 : SideAt H2 p o st m := sm2 _ _ hT1
    have hF2 : SideAt H2 f (fO o st m) st (fM st m) := sm2 _ _ hF
    -- the first if
    refine ⟨_, rfl, .ref f, .ty "tuple", .type "tuple", .type "tuple", true, rfl, .ty _, .base (.tup hF2), kit_ty (by decide +kernel), _, rfl, iteF ?_⟩
    refine ⟨_, rfl, f, _, rfl, .inr (SqT.of hF2), rfl, _, rfl, iteF ?_⟩
    refine ⟨_, rfl, f, _, _, _, rfl, rfl, SqT.of hF2, atI_nat (j := 1) rfl, _, rfl, p, _, _, _, rfl, rfl, SqT.of hT2, atI_nat (j := 1) rfl, rfl, _, rfl, iteNS rfl ?_⟩
    refine ⟨_, rfl, f, fO o st m, st, fM st m, rfl, hF2, okF, fun g H3 sm3 ng hG => ?_⟩
    have hT3 : SideAt H3 p o st m := sm3 _ _ hT2
    have hF3 : SideAt H3 f (fO o st m) st (fM st m) := sm3 _ _ hF2
    have hW3 : H3 k = some (.lst (five.map mv)) := sm3 _ _ hW
    refine ⟨_, rfl, _, _, hG.dp, hF3.dp, shaped_sd _ _ _, shaped_sd _ _ _, _, rfl, ?_⟩
    rw [eqv_sd, decide_eq_true ⟨fO_idem o st m s1, rfl, fM_idem st m s1⟩]
    refine iteF ?_
    -- most
    refine ⟨_, rfl, p, _, _, _, rfl, rfl, SqT.of hT3, atI_nat (j := 1) rfl, _, rfl, f, _, _, _, rfl, rfl, SqT.of hF3, atI_nat (j := 2) rfl, rfl, .inr ⟨decide (fM st m = .he), congrArg (fun b => [V.bl b]) (dec_md (fM st m) .he), _, _, rfl, rfl, _, _, rfl, rfl, ?_, ?_⟩⟩
    · refine .inr ?_
      cases decide (fM st m = .he) <;> decide
    -- the second if
    have hmost : (if decide (fM st m = .he) = true then (1 : Int) else 0) = if fM st m = .he then 1 else 0 := by
      by_cases c : fM st m = .he
      · rw [decide_eq_true c, if_pos rfl, if_pos c]
      · rw [decide_eq_false c, if_neg c]
        rfl
    refine ⟨_, rfl, f, _, _, _, rfl, rfl, SqT.of hF3, atI_nat (j := 0) rfl, _, _, rfl, rfl, _, rfl, iteN (decide_eq_false (by omega)) ?_⟩
    refine ⟨_, rfl, f, _, _, _, rfl, rfl, SqT.of hF3, atI_nat (j := 0) rfl, _, rfl, _, _, rfl, rfl, _, rfl, iteN (decide_eq_false ?_) ?_⟩
    · intro z
      have z' : st * (1 + if decide (fM st m = .he) = true then (1 : Int) else 0) ≤ fO o st m := z
      rw [hmost] at z'
      omega
    have hix := fM_ix st m s1
    refine ⟨_, rfl, .inl ⟨rfl, _, SqL.of hW3⟩, _, rfl, f, _, _, _, rfl, rfl, SqT.of hF3, atI_nat (j := 2) rfl, k, five.map mv, mv (fM st m), (fM st m).ix, mv (fM st m), rfl, rfl, SqL.of hW3, rfl, five_flat, five_at _, eqV_self _, five_no _, ?_⟩
    refine ⟨_, rfl, .inl ⟨rfl, _, SqL.of hW3⟩, _, rfl, p, _, _, _, rfl, rfl, SqT.of hT3, atI_nat (j := 2) rfl, k, five.map mv, mv m, m.ix, mv m, rfl, rfl, SqL.of hW3, rfl, five_flat, five_at _, eqV_self _, five_no _, _, _, rfl, rfl, _, rfl, iteN (decide_eq_false (by omega)) ?_⟩
    -- the third if
    generalize hmo : st * (1 + if decide (fM st m = .he) = true then (1 : Int) else 0) = mo
    refine ⟨fun σ H' => σ = [some (.ref p), some (.ref l), some (.ref f), some (.ref k), some (.int (st * (1 + if decide (fM st m = .he) = true then (1 : Int) else 0))), none] ∧ Same H3 H', ?_, ?_⟩
    · refine ⟨_, rfl, p, _, _, _, rfl, rfl, SqT.of hT3, atI_nat (j := 1) rfl, _, _, rfl, rfl, _, rfl, ite2 (fun e => ?_) (fun e => ?_)⟩
      · have e2 : 2 < st := of_decide_eq_true e
        refine ⟨_, rfl, f, _, _, _, rfl, rfl, SqT.of hF3, atI_nat (j := 2) rfl, _, rfl, p, _, _, _, rfl, rfl, SqT.of hT3, atI_nat (j := 2) rfl, (by show 2 ≤ sizeLine; decide), fun z nz => ?_⟩
        have smz : Same H3 (upd H3 z (.lst [.str m.str, .str "half_down"])) := same_upd nz
        have hZ : (upd H3 z (.lst [.str m.str, .str "half_down"])) z = some (.lst [.str m.str, .str "half_down"]) := upd_same
        generalize upd H3 z (.lst [.str m.str, .str "half_down"]) = H4 at smz hZ ⊢
        have hT4 : SideAt H4 p o st m := smz _ _ hT3
        refine ⟨_, rfl, p, _, _, _, rfl, rfl, SqT.of hT4, atI_nat (j := 1) rfl, _, _, rfl, rfl, (by show (0 : Int) < 2; decide), rfl, _, rfl, ?_⟩
        have hg := fM_great st m e2
        have fin : ∀ (b : Bool), (b = true ↔ (st % 2 = 1 ∧ (m = .hu ∨ m = .he ∨ m = .hd))) → ([V.str m.str, V.str ("half_down" : Str)] : List V)[if b = true then 1 else 0]? = some (mv (fM st m)) := fun b hb => by
          rw [hg]
          cases b with
          | true =>
            rw [if_pos (hb.mp rfl)]
            rfl
          | false =>
            have n : ¬ (st % 2 = 1 ∧ (m = .hu ∨ m = .he ∨ m = .hd)) := fun z => by
              have := hb.mpr z
              cases this
            rw [if_neg n]
            rfl
        refine ite2 (fun e => ?_) (fun e => ?_)
        · have e3 : st % 2 = 1 := V.int.inj (of_decide_eq_true e)
          refine ⟨_, rfl, p, _, _, _, rfl, rfl, SqT.of hT4, atI_nat (j := 2) rfl, 4, rfl, m.str, rfl, md_len m, rfl, .inr ⟨decide (m = .hu ∨ m = .he ∨ m = .hd), congrArg (fun b => [V.bl b]) (cut4 m), z, _, _, mv (fM st m), rfl, rfl, SqL.of hZ, ?_, rfl, _, rfl, iteNS rfl ⟨rfl, smz⟩⟩⟩
          have := fin (decide (m = .hu ∨ m = .he ∨ m = .hd)) ⟨fun z => ⟨e3, of_decide_eq_true z⟩, fun z => decide_eq_true z.2⟩
          refine at_of (j := if decide (m = .hu ∨ m = .he ∨ m = .hd) = true then 1 else 0) ?_ this
          cases decide (m = .hu ∨ m = .he ∨ m = .hd) <;> rfl
        · have e3 : ¬ st % 2 = 1 := fun z => e (decide_eq_true (congrArg V.int z))
          refine .inr ⟨false, rfl, z, _, _, mv (fM st m), rfl, rfl, SqL.of hZ, ?_, rfl, _, rfl, iteNS rfl ⟨rfl, smz⟩⟩
          have := fin false ⟨fun z => (nomatch z), fun z => absurd z.1 e3⟩
          exact at_of (j := 0) rfl this
      · exact ⟨rfl, Same.refl _⟩
    rintro σ H4 ⟨rfl, sm4⟩
    have smA := ((sm1.trans sm2).trans sm3).trans sm4
    have hL4 : H4 l = some (.lst (ns.map V.int)) := smA _ _ hL
    refine ⟨_, rfl, l, rfl, ⟨_, SqL.of hL4⟩, fun R nR => lc_list (K := K) (a := l) (xs := ns.map V.int) (fun i H' => Same H4 H' ∧ H' R = some (.lst [])) ⟨same_upd nR, upd_same⟩ (fun i H' _ hP => SqL.of (hP.1 _ _ hL4)) (fun i x H5 hx hP => ?_) (fun H5 hP => ?_)⟩
    · obtain ⟨sm5, hR⟩ := hP
      obtain ⟨v, hv, rfl⟩ : ∃ v, v ∈ ns ∧ x = V.int v := by
        rw [List.getElem?_map] at hx
        cases e : ns[i]? with
        | none => rw [e] at hx; cases hx
        | some v => rw [e] at hx; exact ⟨v, List.mem_of_getElem? e, (Option.some.inj hx).symm⟩
      have hT5 : SideAt H5 p o st m := sm5 _ _ (sm4 _ _ hT3)
      have hF5 : SideAt H5 f (fO o st m) st (fM st m) := sm5 _ _ (sm4 _ _ hF3)
      refine ⟨rfl, _, rfl, _, rfl, f, fO o st m, st, fM st m, v, rfl, hF5, okF, hns v hv, _, rfl, _, rfl, p, o, st, m, v, rfl, hT5, ok, hns v hv, rfl, _, rfl, ?_⟩
      rw [form_hnd o st m v s1, decide_eq_true rfl]
      exact iteF ⟨sm5, hR⟩
    · obtain ⟨sm5, hR⟩ := hP
      refine ⟨by decide, fun z nz => ?_⟩
      have hR2 : (upd H5 z (.lst [])) R = some (.lst []) := (same_upd nz) _ _ hR
      refine ⟨.list [], .list [], .lst (SqL.of hR2) .nil, .lst (SqL.of upd_same) .nil, PySem.W.shaped_ints [], PySem.W.shaped_ints [], ?_⟩
      exact q _ ((smA.trans sm5).trans (same_upd nz))
end
end K7
namespace K7
open PySem PySem.Spec PyProof.Rows L2
theorem scFst : FnScope ["_law_one", "_law_mode", "_law_same", "_law_value"] ["_law_one"] (defScope sFst) := ⟨rfl, rfl, rfl, by decide +kernel, rfl, by decide +kernel, by decide +kernel⟩
theorem scSF : FnScope ["_law_source_here", "_law_step", "_law_modes", "_law_one", "_law_other", "_law_alike", "_law_value"] ["_law_source_here"] (defScope sSF) := ⟨rfl, rfl, rfl, by decide +kernel, rfl, by decide +kernel, by decide +kernel⟩
theorem eqv_nil (ns : List Int) : PyData.eqv (.list (ns.map PyData.int)) (.list []) = decide (ns = []) := by
  cases ns with
  | nil => rfl
  | cons n r => rfl
/-- the values that are written unlike are none so far just if all are alike so far -/
theorem alike_step {ns : List Int} {i : Nat} {f g : Nat → Int} (h : ns = [] ↔ ∀ v : Nat, v < i → f v = g v) :
    (f i = g i → (ns = [] ↔ ∀ v : Nat, v < i + 1 → f v = g v)) ∧ (f i ≠ g i → ∀ x : Int, (ns ++ [x] = [] ↔ ∀ v : Nat, v < i + 1 → f v = g v)) := by
  constructor
  · intro e
    constructor
    · intro z v hv
      by_cases c : v = i
      · rw [c]
        exact e
      · exact h.mp z v (by omega)
    · intro z
      exact h.mpr fun v hv => z v (by omega)
  · intro e x
    constructor
    · intro z
      simp at z
    · intro z
      exact absurd (z i (by omega)) e
section
variable {P : Program} {w : World} {K : PySem.W.Frag} {mg : Str → Option Value} {base : Heap}
def spFst : Sp := fun vs H Q _ => ∃ (p : Addr) (o s : Int) (m : Md), vs = [.ref p] ∧ SideAt H p o s m ∧ Ok o s ∧ s ≤ 6 ∧ ∀ H', Same H H' → Q (mv (fM s m)) H'
theorem ok_Fst (D : All7 K mg) (T : G7 K w mg) : FnOk P w K mg base CX0 3 D.f32 D.d32 ["_law_one"] spFst := by
  refine D.D32.F.ok scFst (fun vs H Q E h => ?_) (fun cdv A outer s H vs Q E hr h => ?_)
  · obtain ⟨p, o, s, m, rfl, _⟩ := h
    rfl
  · obtain ⟨p, o, st, m, rfl, hT, ok, s6, q⟩ := h
    have s1 := ok.s1
    refine ⟨_, pss_cons (ps_for PassesOwn.never rfl (pi_list (pe_lst (pa_cons pe_str (pa_cons pe_str (pa_cons pe_str (pa_cons pe_str pa_nil)))))) (pg_name (i := 1) scFst.nd rfl (.inr rfl))
        (pss_cons (ps_setLc (i := 2) (own := [("_law_value", 3)]) (g := gName 3) (by rfl) scFst.nd rfl rfl (sw_true rfl rfl rfl (by decide +kernel)) (pi_range1 (by rfl) T.range (pa_cons pe_int pa_nil))
            (blkOk_by (own := [("_law_value", 3)]) (N := ["_law_one", "_law_mode", "_law_same", "_law_value"]) (sc := defScope sFst) (by decide +kernel))
            (fun _ _ _ _ _ => pg_name (i := 3) scFst.nd rfl (Or.inl rfl))
            (fun _ _ _ _ _ => pts_one (pt_cmpR op_ne (pcall (ok_hndL D T) D.D29 hr (pa_cons (pe_tup (pa_cons (pe_ix (r := rIxT K) ix_tup (pv 0) pe_int (fun _ _ => rfl)) (pa_cons (pe_ix (r := rIxT K) ix_tup (pv 0) pe_int (fun _ _ => rfl)) (pa_cons (pv 1) pa_nil)))) (pa_cons (pv 3) pa_nil)))
              (pcall (ok_hndL D T) D.D29 hr (pa_cons (pv 0) (pa_cons (pv 3) pa_nil))) (nomark _)))
            (fun _ _ _ _ _ => pv 3))
        (pss_one (ps_if (pt_cmpR (op_eqD hr.units) (pv 2) (pe_lst pa_nil) (nomark _)) (pss_one (ps_ret (pv 1))) pss_nil))))
      (pss_one (ps_ret pe_str)), ?_⟩
    refine ⟨by decide, fun l nl => ?_⟩
    have sm1 : Same H (upd H l (.lst [.str "down", .str "up", .str "half_down", .str "half_up"])) := same_upd nl
    have hW : (upd H l (.lst [.str "down", .str "up", .str "half_down", .str "half_up"])) l = some (.lst (four.map mv)) := upd_same
    generalize upd H l (.lst [.str "down", .str "up", .str "half_down", .str "half_up"]) = H1 at sm1 hW ⊢
    refine ⟨l, rfl, ⟨_, SqL.of hW⟩, for_list (K := K) (a := l) (xs := four.map mv) (fun i σ H' => ∃ v1 v2 v3 : Option V, σ = [some (.ref p), v1, v2, v3] ∧ Same H1 H' ∧ ∀ k x, k < i → four[k]? = some x → ¬ (fO o st x = fO o st m ∧ fM st x = fM st m))
      ⟨none, none, none, rfl, Same.refl _, fun k x hk _ => absurd hk (Nat.not_lt_zero k)⟩ (fun i σ H' _ ⟨_, _, _, _, sm, _⟩ => SqL.of (sm _ _ hW)) (fun i y σ H2 hy hP => ?_) (fun σ H2 hP => ?_)⟩
    · obtain ⟨v1, v2, v3, rfl, sm2, hno⟩ := hP
      obtain ⟨μ, hμ, rfl⟩ := map_get hy
      have hT2 : SideAt H2 p o st m := sm2 _ _ (sm1 _ _ hT)
      refine ⟨24, rfl, by decide, by decide, fun L nL => lc_range (lo := 0) (n := 24) (fun i H' => Same H2 H' ∧ ∃ ns : List Int, H' L = some (.lst (ns.map V.int)) ∧ ns.length ≤ i ∧ (ns = [] ↔ ∀ v : Nat, v < i → hnd o st μ v = hnd o st m v))
        ⟨same_upd nL, [], upd_same, Nat.le_refl _, ⟨fun _ v hv => absurd hv (Nat.not_lt_zero v), fun _ => rfl⟩⟩ (fun i H3 hi hP => ?_) (fun H3 hP => ?_)⟩
      · obtain ⟨sm3, ns, hL, hlen, hal⟩ := hP
        have hT3 : SideAt H3 p o st m := sm3 _ _ hT2
        have ei : (0 : Int) + (i : Int) = (i : Int) := by omega
        have hv : ((0 : Int) + (i : Int)).natAbs < 2 ^ 200 := by omega
        refine ⟨rfl, _, rfl, p, _, _, _, rfl, rfl, SqT.of hT3, atI_nat (j := 0) rfl, _, rfl, p, _, _, _, rfl, rfl, SqT.of hT3, atI_nat (j := 1) rfl, _, rfl, (by show 3 ≤ sizeLine; decide), fun t nt => ?_⟩
        refine ⟨_, rfl, t, o, st, μ, _, rfl, upd_same, ok, hv, ?_⟩
        have sm4 : Same H3 (upd H3 t (.tup [.int o, .int st, mv μ])) := same_upd nt
        have st4 := alike_step (f := fun v => hnd o st μ v) (g := fun v => hnd o st m v) hal
        refine ⟨_, rfl, _, rfl, p, o, st, m, _, rfl, sm4 _ _ hT3, ok, hv, rfl, _, rfl, ?_⟩
        rw [ei]
        by_cases c : hnd o st μ (i : Int) = hnd o st m (i : Int)
        · rw [decide_eq_true (congrArg V.int c)]
          exact iteF ⟨sm3.trans sm4, ns, sm4 _ _ hL, by omega, st4.1 c⟩
        · rw [decide_eq_false (fun z => c (V.int.inj z))]
          refine iteT ⟨_, rfl, _, sm4 _ _ hL, small1000 (by rw [List.length_map]; omega), fun b x hb => ?_, ns ++ [(i : Int)], ?_, ?_, st4.2 c _⟩
          · rw [upd_ne (ne_of_none hb nL)]
            exact (sm3.trans sm4) _ _ hb
          · rw [upd_same, List.map_append]
            rfl
          · rw [List.length_append]
            show ns.length + 1 ≤ i + 1
            omega
      · obtain ⟨sm3, ns, hL, hlen, hal⟩ := hP
        have ha := (hal.trans (alike_form s1 s6 (Nat.le_refl 24)))
        refine ⟨_, rfl, by decide, fun z nz => ?_⟩
        have hL2 : (upd H3 z (.lst [])) L = some (.lst (ns.map V.int)) := (same_upd nz) _ _ hL
        refine ⟨.list (ns.map PyData.int), .list [], .lst (SqL.of hL2) (dpAll_ints ns), .lst (SqL.of upd_same) .nil, PySem.W.shaped_ints ns, PySem.W.shaped_ints [], _, rfl, ?_⟩
        rw [eqv_nil]
        refine ite2 (fun e => ?_) (fun e => ?_)
        · have h1 := ha.mp (of_decide_eq_true e)
          have h2 : μ = fM st m := first_hit s1 hμ h1.2 hno
          rw [← h2] at q
          exact ⟨_, rfl, q _ (((sm1.trans sm2).trans sm3).trans (same_upd nz))⟩
        · have h1 : ¬ (fO o st μ = fO o st m ∧ fM st μ = fM st m) := fun z => e (decide_eq_true (ha.mpr z))
          refine ⟨_, _, _, rfl, (sm2.trans sm3).trans (same_upd nz), fun k x hk hx => ?_⟩
          by_cases c : k = i
          · subst c
            have : x = μ := Option.some.inj (hx.symm.trans hμ)
            rw [this]
            exact h1
          · exact hno k x (by omega) hx
    · obtain ⟨v1, v2, v3, rfl, sm2, hno⟩ := hP
      have e := first_none s1 hno
      rw [e] at q
      exact q _ (sm1.trans sm2)
def spSF : Sp := fun vs H Q _ => ∃ (a c : Addr) (T : Nat), vs = [.ref a] ∧ Src H a c T ∧ T < 2 ^ 50 ∧ ∀ H', Kp a c H H' → Src H' a c (T + 10) → Q (.bl true) H'
theorem mode_of {x : V} (h : x ∈ five.map mv) : ∃ m : Md, x = mv m := by
  obtain ⟨m, _, e⟩ := List.mem_map.mp h
  exact ⟨m, e.symm⟩
theorem ok_SF (D : All7 K mg) (T : G7 K w mg) : FnOk P w K mg base CX0 5 D.f33 D.d33 ["_law_source_here"] spSF := by
  refine D.D33.F.ok scSF (fun vs H Q E h => ?_) (fun cdv A outer s H vs Q E hr h => ?_)
  · obtain ⟨a, c, n, rfl, _⟩ := h
    rfl
  · obtain ⟨a, c, n, rfl, hS, hn, q⟩ := h
    have hr1 : Room 1 _ := hr.mono (by decide)
    have hr2 : Room 2 _ := hr.mono (by decide)
    have hr3 : Room 3 _ := hr.mono (by decide)
    refine ⟨_, pss_cons (ps_set (i := 1) scSF.nd rfl (.inl rfl) (pe_op op_add pe_int (pcall (ok_draw D T) D.D24 hr1 (pa_cons (pv 0) (pa_cons pe_int pa_nil)))))
      (pss_cons (ps_set (i := 2) scSF.nd rfl (.inl rfl) (pe_lst (pa_cons pe_str (pa_cons pe_str (pa_cons pe_str (pa_cons pe_str (pa_cons pe_str pa_nil)))))))
      (pss_cons (ps_set (i := 3) scSF.nd rfl (.inr rfl) (pe_tup (pa_cons (pe_op op_sub (pcall (ok_draw D T) D.D24 hr1 (pa_cons (pv 0) (pa_cons pe_int pa_nil))) pe_int) (pa_cons (pv 1) (pa_cons (pcall (ok_pick D T) D.D25 hr2 (pa_cons (pv 0) (pa_cons (pv 2) pa_nil))) pa_nil)))))
      (pss_cons (ps_set (i := 4) scSF.nd rfl (.inr rfl) (pe_tup (pa_cons (pe_op op_add (pe_op op_add (pe_ix ix_tup (pv 3) pe_int (fun _ _ => rfl)) (pe_op op_mul (pcall (ok_draw D T) D.D24 hr1 (pa_cons (pv 0) (pa_cons pe_int pa_nil))) (pv 1))) (pcall (ok_draw D T) D.D24 hr1 (pa_cons (pv 0) (pa_cons pe_int pa_nil))))
        (pa_cons (pv 1) (pa_cons (pcall (ok_pick D T) D.D25 hr2 (pa_cons (pv 0) (pa_cons (pv 2) pa_nil))) pa_nil)))))
      (pss_cons (ps_set (i := 5) scSF.nd rfl (.inl rfl) (pe_cmpR (op_eqD hr.units) (pe_lc (own := [("_law_value", 6)]) (g := gName 6) (by rfl) scSF.nd (pi_range1 (by rfl) T.range (pa_cons pe_int pa_nil))
          (blkOk_by (own := [("_law_value", 6)]) (N := ["_law_source_here", "_law_step", "_law_modes", "_law_one", "_law_other", "_law_alike", "_law_value"]) (sc := defScope sSF) (by decide +kernel))
          (fun _ _ _ _ _ => pg_name (i := 6) scSF.nd rfl (Or.inl rfl))
          (fun _ _ _ _ _ => pts_one (pt_cmpR op_ne (pcall (ok_hndL D T) D.D29 hr2 (pa_cons (pv 3) (pa_cons (pv 6) pa_nil))) (pcall (ok_hndL D T) D.D29 hr2 (pa_cons (pv 4) (pa_cons (pv 6) pa_nil))) (nomark _)))
          (fun _ _ _ _ _ => pv 6)) (pe_lst pa_nil) (nomark _)))
      (pss_one (ps_ret (pe_and (pe_cmpR op_eq (pe_cmpR (op_eqD hr.units) (pcall (ok_form D T) D.D21 hr (pa_cons (pv 3) pa_nil)) (pcall (ok_form D T) D.D21 hr (pa_cons (pv 4) pa_nil)) (nomark _)) (pv 5) (nomark _))
        (pe_one (pe_cmpR op_eq (pe_ix ix_tup (pcall (ok_form D T) D.D21 hr (pa_cons (pv 3) pa_nil)) pe_int (fun _ _ => rfl)) (pcall (ok_Fst D T) D.D32 hr3 (pa_cons (pv 3) pa_nil)) (nomark _)))))))))), ?_⟩
    -- step
    refine ⟨_, rfl, a, c, n, 6, rfl, hS, by omega, by decide, by decide, fun r1 H1 r10 r11 k1 s1 => ?_⟩
    refine ⟨_, _, rfl, rfl, ?_⟩
    -- modes
    refine ⟨by decide, fun l nl => ?_⟩
    have nla := s1.new nl
    have sm2 : Same H1 (upd H1 l (.lst [.str "down", .str "up", .str "half_down", .str "half_up", .str "half_even"])) := same_upd nl
    have hW : (upd H1 l (.lst [.str "down", .str "up", .str "half_down", .str "half_up", .str "half_even"])) l = some (.lst (five.map mv)) := upd_same
    generalize upd H1 l (.lst [.str "down", .str "up", .str "half_down", .str "half_up", .str "half_even"]) = H2 at sm2 hW ⊢
    have s2 := s1.same sm2
    have k2 := k1.trans (Same.kp sm2)
    -- one
    refine ⟨_, rfl, a, c, n + 1, 40, rfl, s2, by omega, by decide, by decide, fun r3 H3 r30 r31 k3 s3 => ?_⟩
    have hW3 := k3 _ _ hW nla.1 nla.2
    refine ⟨_, _, rfl, rfl, _, rfl, _, rfl, _, rfl, a, c, n + 2, l, five.map mv, rfl, s3, by omega, hW3, nla.1, nla.2, by decide, by decide, fun x4 H4 hx4 k4 s4 => ?_⟩
    obtain ⟨m1, rfl⟩ := mode_of hx4
    have hW4 := k4 _ _ hW3 nla.1 nla.2
    refine ⟨(by show 3 ≤ sizeLine; decide), fun p np => ?_⟩
    have sm5 : Same H4 (upd H4 p (.tup (sd (r3 - 20) (1 + r1) m1))) := same_upd np
    have hT : SideAt (upd H4 p (.tup (sd (r3 - 20) (1 + r1) m1))) p (r3 - 20) (1 + r1) m1 := upd_same
    have s5 := s4.same sm5
    have hW5 := sm5 _ _ hW4
    have k5 := ((k2.trans k3).trans k4).trans (Same.kp sm5)
    show _
    -- other
    refine ⟨_, rfl, p, _, _, _, rfl, rfl, SqT.of hT, atI_nat (j := 0) rfl, _, rfl, a, c, n + 3, 3, rfl, s5, by omega, by decide, by decide, fun r6 H6 r60 r61 k6 s6 => ?_⟩
    refine ⟨_, rfl, _, _, rfl, rfl, .inl ⟨by omega, by omega⟩, _, _, rfl, rfl, _, rfl, a, c, n + 4, 2, rfl, s6, by omega, by decide, by decide, fun r7 H7 r70 r71 k7 s7 => ?_⟩
    have hW7 := k7 _ _ (k6 _ _ hW5 nla.1 nla.2) nla.1 nla.2
    refine ⟨_, _, rfl, rfl, _, rfl, _, rfl, _, rfl, a, c, n + 5, l, five.map mv, rfl, s7, by omega, hW7, nla.1, nla.2, by decide, by decide, fun x8 H8 hx8 k8 s8 => ?_⟩
    obtain ⟨m2, rfl⟩ := mode_of hx8
    have hT8 : SideAt H8 p (r3 - 20) (1 + r1) m1 := ((hT.kp s5 k6).kp s6 k7).kp s7 k8
    refine ⟨(by show 3 ≤ sizeLine; decide), fun p2 np2 => ?_⟩
    have sm9 : Same H8 (upd H8 p2 (.tup (sd (r3 - 20 + r6 * (1 + r1) + r7) (1 + r1) m2))) := same_upd np2
    have hU : SideAt (upd H8 p2 (.tup (sd (r3 - 20 + r6 * (1 + r1) + r7) (1 + r1) m2))) p2 (r3 - 20 + r6 * (1 + r1) + r7) (1 + r1) m2 := upd_same
    have hT9 : SideAt (upd H8 p2 (.tup (sd (r3 - 20 + r6 * (1 + r1) + r7) (1 + r1) m2))) p (r3 - 20) (1 + r1) m1 := sm9 _ _ hT8
    have s9 := s8.same sm9
    have k9 := (((k5.trans k6).trans k7).trans k8).trans (Same.kp sm9)
    have ok1 : Ok (r3 - 20) (1 + r1) := ⟨by omega, by omega, by omega, by omega⟩
    have b6 : 0 ≤ r6 * (1 + r1) ∧ r6 * (1 + r1) ≤ 12 := by
      have : r6 = 0 ∨ r6 = 1 ∨ r6 = 2 := by omega
      rcases this with rfl | rfl | rfl <;> omega
    have ok2 : Ok (r3 - 20 + r6 * (1 + r1) + r7) (1 + r1) := ⟨by omega, by omega, by omega, by omega⟩
    have t1 : 1 ≤ 1 + r1 := by omega
    have t6 : 1 + r1 ≤ 6 := by omega
    refine ⟨60, rfl, by decide, by decide, fun L nL => lc_range (lo := 0) (n := 60) (fun i H' => Same (upd H8 p2 (.tup (sd (r3 - 20 + r6 * (1 + r1) + r7) (1 + r1) m2))) H' ∧ ∃ ns : List Int, H' L = some (.lst (ns.map V.int)) ∧ ns.length ≤ i ∧
        (ns = [] ↔ ∀ v : Nat, v < i → hnd (r3 - 20) (1 + r1) m1 v = hnd (r3 - 20 + r6 * (1 + r1) + r7) (1 + r1) m2 v))
      ⟨same_upd nL, [], upd_same, Nat.le_refl _, ⟨fun _ v hv => absurd hv (Nat.not_lt_zero v), fun _ => rfl⟩⟩ (fun i H3 hi hP => ?_) (fun HA hP => ?_)⟩
    · obtain ⟨sm3, ns, hL, hlen, hal⟩ := hP
      have ei : (0 : Int) + (i : Int) = (i : Int) := by omega
      have hv : ((0 : Int) + (i : Int)).natAbs < 2 ^ 200 := by omega
      have st4 := alike_step (f := fun v => hnd (r3 - 20) (1 + r1) m1 v) (g := fun v => hnd (r3 - 20 + r6 * (1 + r1) + r7) (1 + r1) m2 v) hal
      refine ⟨rfl, _, rfl, _, rfl, p, r3 - 20, 1 + r1, m1, _, rfl, sm3 _ _ hT9, ok1, hv, _, rfl, _, rfl, p2, _, 1 + r1, m2, _, rfl, sm3 _ _ hU, ok2, hv, rfl, _, rfl, ?_⟩
      rw [ei]
      by_cases c : hnd (r3 - 20) (1 + r1) m1 (i : Int) = hnd (r3 - 20 + r6 * (1 + r1) + r7) (1 + r1) m2 (i : Int)
      · rw [decide_eq_true (congrArg V.int c)]
        exact iteF ⟨sm3, ns, hL, by omega, st4.1 c⟩
      · rw [decide_eq_false (fun z => c (V.int.inj z))]
        refine iteT ⟨_, rfl, _, hL, small1000 (by rw [List.length_map]; omega), fun b x hb => ?_, ns ++ [(i : Int)], ?_, ?_, st4.2 c _⟩
        · rw [upd_ne (ne_of_none hb nL)]
          exact sm3 _ _ hb
        · rw [upd_same, List.map_append]
          rfl
        · rw [List.length_append]
          show ns.length + 1 ≤ i + 1
          omega
    obtain ⟨smA, ns, hL, hlen, hal⟩ := hP
    have ha := hal.trans (alike_form t1 t6 (by decide : 24 ≤ 60))
    refine ⟨by decide, fun z nz => ?_⟩
    have hL2 : (upd HA z (.lst [])) L = some (.lst (ns.map V.int)) := (same_upd nz) _ _ hL
    have smB : Same HA (upd HA z (.lst [])) := same_upd nz
    refine ⟨.list (ns.map PyData.int), .list [], .lst (SqL.of hL2) (dpAll_ints ns), .lst (SqL.of upd_same) .nil, PySem.W.shaped_ints ns, PySem.W.shaped_ints [], ?_⟩
    rw [eqv_nil]
    generalize upd HA z (.lst []) = HB at smB ⊢
    have hTB : SideAt HB p (r3 - 20) (1 + r1) m1 := smB _ _ (smA _ _ hT9)
    have hUB : SideAt HB p2 (r3 - 20 + r6 * (1 + r1) + r7) (1 + r1) m2 := smB _ _ (smA _ _ hU)
    -- the answer
    refine ⟨_, rfl, p, _, _, m1, rfl, hTB, ok1, fun f1 HC smC nf1 hF1 => ?_⟩
    refine ⟨_, rfl, p2, _, _, m2, rfl, smC _ _ hUB, ok2, fun f2 HD smD nf2 hF2 => ?_⟩
    have hF1D := smD _ _ hF1
    refine ⟨_, _, SideAt.dp hF1D, hF2.dp, shaped_sd _ _ _, shaped_sd _ _ _, _, rfl, rfl, true, ?_, iteT ?_⟩
    · rw [eqv_sd]
      refine congrArg V.bl (decide_eq_true (congrArg V.bl (decide_eq_decide.mpr ?_)))
      rw [ha]
      exact ⟨fun z => ⟨z.1, z.2.2⟩, fun z => ⟨z.1, rfl, z.2⟩⟩
    refine ⟨_, rfl, p, _, _, m1, rfl, smD _ _ (smC _ _ hTB), ok1, fun f3 HE smE nf3 hF3 => ?_⟩
    refine ⟨f3, _, _, _, rfl, rfl, SqT.of hF3, atI_nat (j := 2) rfl, _, rfl, p, _, _, m1, rfl, smE _ _ (smD _ _ (smC _ _ hTB)), ok1, t6, fun HF smF => ⟨rfl, ?_⟩⟩
    have e : decide (V.str (fM (1 + r1) m1).str = mv (fM (1 + r1) m1)) = true := decide_eq_true rfl
    have smG := ((((smA.trans smB).trans smC).trans smD).trans smE).trans smF
    rw [e]
    exact q _ (k9.trans (Same.kp smG)) ((s9.same smG).mono (by omega))
end
end K7
namespace K7
open PySem PySem.Spec PyProof.Rows L2
theorem scL : FnScope ["_law_script", "_law_source_here", "_law_turn", "_law_one", "_law_value", "_law_near", "_law_values", "_law_less", "_law_more"] ["_law_script"] (defScope sLaw) := ⟨rfl, rfl, rfl, by decide +kernel, rfl, by decide +kernel, by decide +kernel⟩
theorem pow50 {n : Int} (h : n < 10 ^ 50) : n < 2 ^ 170 := Int.lt_of_lt_of_le h (by decide)
section
variable {P : Program} {w : World} {K : PySem.W.Frag} {mg : Str → Option Value} {base : Heap}
def spLaw (K : PySem.W.Frag) : Sp := fun vs H Q _ => ∃ (a0 : Addr) (ns : List Int), vs = [.ref a0] ∧ SqL K H a0 (ns.map V.int) ∧ ns.length ≤ 63 ∧ ∀ H', Q (.bl true) H'
theorem ok_law (D : All7 K mg) (T : G7 K w mg) : FnOk P w K mg base CX0 6 D.f34 D.d34 ["_law_script"] (spLaw K) := by
  refine D.D34.F.ok scL (fun vs H Q E h => ?_) (fun cdv A outer s H vs Q E hr h => ?_)
  · obtain ⟨a0, ns, rfl, _⟩ := h
    rfl
  · obtain ⟨a0, ns, rfl, hS, h63, q⟩ := h
    have hr1 : Room 1 _ := hr.mono (by decide)
    have hr2 : Room 2 _ := hr.mono (by decide)
    have hr3 : Room 3 _ := hr.mono (by decide)
    have hr4 : Room 4 _ := hr.mono (by decide)
    refine ⟨_, pss_cons (ps_set (i := 1) scL.nd rfl (.inl rfl) (pcall (ok_src D T) D.D23 hr1 (pa_cons (pv 0) pa_nil)))
      (pss_cons (ps_for PassesOwn.never rfl (pi_range1 (by rfl) T.range (pa_cons pe_int pa_nil)) (pg_name (i := 2) scL.nd rfl (.inl rfl))
        (pss_cons (ps_set (i := 3) scL.nd rfl (.inr rfl) (pcall (ok_side D T) D.D27 hr3 (pa_cons (pv 1) (pa_cons pe_int pa_nil))))
        (pss_cons (ps_set (i := 4) scL.nd rfl (.inl rfl) (pe_op op_mul (pcall (ok_great D T) D.D26 hr2 (pa_cons (pv 1) (pa_cons pe_int pa_nil))) (pcall (ok_pick D T) D.D25 hr2 (pa_cons (pv 1) (pa_cons (pe_lst (pa_cons pe_int (pa_cons (pe_un un_neg pe_int) pa_nil))) pa_nil)))))
        (pss_cons (ps_set (i := 5) scL.nd rfl (.inl rfl) (pe_op op_add (pe_op op_add (pe_ix ix_tup (pv 3) pe_int (fun _ _ => rfl)) (pe_op op_mulW (pe_ix ix_tup (pv 3) pe_int (fun _ _ => rfl)) (pcall (ok_great D T) D.D26 hr2 (pa_cons (pv 1) (pa_cons pe_int pa_nil))))) (pe_op op_fdiv (pe_ix ix_tup (pv 3) pe_int (fun _ _ => rfl)) pe_int)))
        (C8.pss_cut (ps_set (i := 6) scL.nd rfl (.inl rfl) (pe_lst (pa_cons pe_int (pa_cons pe_int (pa_cons (pe_un un_neg pe_int) (pa_cons (pv 4) (pa_cons (pv 5) (pa_cons (pe_op op_add (pv 5) pe_int) (pa_cons (pe_op op_sub (pv 5) pe_int)
            (pa_cons (pe_op op_add (pv 5) (pe_ix ix_tup (pv 3) pe_int (fun _ _ => rfl))) (pa_cons (pe_op op_add (pe_op op_add (pv 5) (pe_ix ix_tup (pv 3) pe_int (fun _ _ => rfl))) pe_int) (pa_cons (pe_un un_neg (pv 5)) pa_nil))))))))))))
        (pss_cons (ps_if (PW.pt (pw_or (pt_cmpR (op_neD hr.units) (pe_lc (own := [("_law_more", 8)]) (g := gName 8) (by rfl) scL.nd (pi_list (pv 6))
            (blkOk_by (own := [("_law_more", 8)]) (N := ["_law_script", "_law_source_here", "_law_turn", "_law_one", "_law_value", "_law_near", "_law_values", "_law_less", "_law_more"]) (sc := defScope sLaw) (by decide +kernel))
            (fun _ _ _ _ _ => pg_name (i := 8) scL.nd rfl (Or.inl rfl))
            (fun _ _ _ _ _ => pts_one (pt_not (pt_val (pcall (ok_MF D T) D.D30 hr (pa_cons (pv 3) (pa_cons (pv 8) pa_nil))))))
            (fun _ _ _ _ _ => pv 8)) (pe_lst pa_nil) (nomark _))
            (pw_or1 (pt_not (pt_val (pcall (ok_FF D T) D.D31 hr (pa_cons (pv 3) (pa_cons (pv 6) pa_nil)))))))) (pss_one (ps_ret pe_bl)) pss_nil)
        (pss_cons (ps_set (i := 7) scL.nd rfl (.inl rfl) (pe_op op_sub (pe_ix ix_tup (pv 3) pe_int (fun _ _ => rfl)) (pe_op op_mul (pe_op op_mul (pe_ix ix_tup (pv 3) pe_int (fun _ _ => rfl))
            (pe_op op_add pe_int (pe_callTy call_int1 (by rfl) T.int (by decide +kernel) (pa_cons (pe_cmpR op_eq (pe_ix ix_tup (pv 3) pe_int (fun _ _ => rfl)) pe_str (nomark _)) pa_nil)))) (pcall (ok_draw D T) D.D24 hr1 (pa_cons (pv 1) (pa_cons pe_int pa_nil))))))
        (pss_one (ps_if (PW.pt (pw_or (pt_cmpR (op_neD hr.units) (pcall (ok_form D T) D.D21 hr4 (pa_cons (pe_tup (pa_cons (pv 7) (pa_cons (pe_ix ix_tup (pv 3) pe_int (fun _ _ => rfl)) (pa_cons (pe_ix ix_tup (pv 3) pe_int (fun _ _ => rfl)) pa_nil)))) pa_nil))
              (pcall (ok_form D T) D.D21 hr4 (pa_cons (pv 3) pa_nil)) (nomark _))
            (pw_or1 (pt_not (pt_val (pcall (ok_SF D T) D.D33 hr (pa_cons (pv 1) pa_nil))))))) (pss_one (ps_ret pe_bl)) pss_nil)))))))))
      (pss_one (ps_ret (pe_and (pe_cmpR (op_eqD hr.units) (pcall (ok_form D T) D.D21 hr4 (pa_cons (pe_tup (pa_cons (pe_un un_neg pe_int) (pa_cons pe_int (pa_cons pe_str pa_nil)))) pa_nil)) (pe_tup (pa_cons pe_int (pa_cons pe_int (pa_cons pe_str pa_nil)))) (nomark _))
        (pe_one (pe_cmpR (op_eqD hr.units) (pcall (ok_form D T) D.D21 hr4 (pa_cons (pe_tup (pa_cons pe_int (pa_cons pe_int (pa_cons pe_str pa_nil)))) pa_nil)) (pe_tup (pa_cons pe_int (pa_cons pe_int (pa_cons pe_str pa_nil)))) (nomark _))))))), ?_⟩
    refine ⟨_, rfl, a0, ns, rfl, hS, h63, fun a c H1 sm1 s1 => ?_⟩
    refine ⟨30, rfl, by decide, by decide, for_range (lo := 0) (n := 30) (fun i σ H' => ∃ v2 v3 v4 v5 v6 v7 v8 : Option V, σ = [some (.ref a0), some (.ref a), v2, v3, v4, v5, v6, v7, v8] ∧ Src H' a c (200 * i))
      ⟨none, none, none, none, none, none, none, rfl, s1⟩ (fun i σ H2 hi hP => ?_) (fun σ H2 hP => ?_)⟩
    · obtain ⟨v2, v3, v4, v5, v6, v7, v8, rfl, s2⟩ := hP
      -- one
      refine ⟨_, rfl, a, c, 200 * i, rfl, s2, by omega, fun o st m p H3 o1 o2 ok k3 s3 np hT3 => ?_⟩
      -- value
      refine ⟨_, rfl, a, c, 200 * i + 90, 50, 50, rfl, rfl, s3, by omega, by omega, fun x H4 x0 x1 k4 s4 => ?_⟩
      have x2 := pow50 x1
      have hT4 := hT3.kp s3 k4
      refine ⟨_, rfl, 1, rfl, by decide, fun l nl => ?_⟩
      have nl4 := s4.new nl
      have sm5 : Same H4 (upd H4 l (.lst [.int 1, .int (-1)])) := same_upd nl
      have hl5 : (upd H4 l (.lst [.int 1, .int (-1)])) l = some (.lst [.int 1, .int (-1)]) := upd_same
      refine ⟨a, c, _, l, [.int 1, .int (-1)], rfl, s4.same sm5, by omega, hl5, nl4.1, nl4.2, by decide, by decide, fun z H6 hz k6 s6 => ?_⟩
      have hT6 := (show SideAt (upd H4 l (.lst [.int 1, .int (-1)])) p o st m from sm5 _ _ hT4).kp (s4.same sm5) k6
      have hz' : ∃ g : Int, z = .int g ∧ -1 ≤ g ∧ g ≤ 1 ∧ (x * g).natAbs < 2 ^ 171 := by
        simp at hz
        rcases hz with rfl | rfl
        · exact ⟨1, rfl, by decide, by decide, by omega⟩
        · exact ⟨-1, rfl, by decide, by decide, by omega⟩
      obtain ⟨g, rfl, g1, g2, hval⟩ := hz'
      refine ⟨_, _, rfl, rfl, .inr ⟨by omega, by omega⟩, ?_⟩
      -- near
      refine ⟨_, rfl, p, _, _, _, rfl, rfl, SqT.of hT6, atI_nat (j := 0) rfl, _, rfl, p, _, _, _, rfl, rfl, SqT.of hT6, atI_nat (j := 1) rfl, _, rfl, a, c, _, 5, 5, rfl, rfl, s6, by omega, by omega, fun y H7 y0 y1 k7 s7 => ?_⟩
      have hT7 := hT6.kp s6 k7
      have hy : y.natAbs < 2 ^ 20 := by
        have : (10 : Int) ^ 5 = 100000 := by decide
        omega
      have hsty := wide_lt ok.sb hy
      refine ⟨_, _, rfl, rfl, wide_mul ok.sb hy (by decide) (by decide) (by decide), _, _, rfl, rfl, _, rfl, p, _, _, _, rfl, rfl, SqT.of hT7, atI_nat (j := 1) rfl, _, _, rfl, rfl, ⟨by decide, by decide⟩, _, _, rfl, rfl, ?_⟩
      have st1 := ok.s1
      have st2 := ok.s2
      have hnear : (o + st * y + st / 2).natAbs < 2 ^ 180 := by
        have e : (2 : Nat) ^ (100 + 20) = 2 ^ 120 := by decide
        rw [e] at hsty
        generalize st * y = sy at hsty ⊢
        omega
      -- values
      refine ⟨fun σ' H' => ∃ (v2 v7 v8 : Option V) (l : Addr) (ns : List Int), σ' = [some (.ref a0), some (.ref a), v2, some (.ref p), some (.int (x * g)), some (.int (o + st * y + st / 2)), some (.ref l), v7, v8] ∧ SideAt H' p o st m ∧ Src H' a c (200 * i + 146) ∧
        H' l = some (.lst (ns.map V.int)) ∧ ∀ z ∈ ns, z.natAbs < 2 ^ 200, ?_, ?_⟩
      · refine ⟨1, rfl, _, rfl, _, rfl, _, rfl, _, _, rfl, rfl, _, rfl, _, _, rfl, rfl, _, rfl, _, rfl, p, _, _, _, rfl, rfl, SqT.of hT7, atI_nat (j := 1) rfl, _, _, rfl, rfl, _, rfl, _, rfl, p, _, _, _, rfl, rfl, SqT.of hT7, atI_nat (j := 1) rfl, _, _, rfl, rfl,
          _, _, rfl, rfl, _, rfl, _, rfl, (by show 10 ≤ sizeLine; decide), fun l2 nl2 => ?_⟩
        refine ⟨_, _, _, l2, [0, 1, -1, x * g, o + st * y + st / 2, o + st * y + st / 2 + 1, o + st * y + st / 2 - 1, o + st * y + st / 2 + st, o + st * y + st / 2 + st + 1, -(o + st * y + st / 2)], rfl, (same_upd nl2) _ _ hT7, (s7.same (same_upd nl2)).mono (by omega), upd_same, ?_⟩
        generalize o + st * y + st / 2 = near at hnear ⊢
        generalize x * g = val at hval ⊢
        intro z hz
        simp at hz
        rcases hz with rfl | rfl | rfl | rfl | rfl | rfl | rfl | rfl | rfl | rfl <;> omega
      rintro σ H8 ⟨w2, w7, w8, lv, vs, rfl, hT8, s8, hl8, hvs⟩
      -- the first if
      refine ⟨_, rfl, lv, rfl, ⟨_, SqL.of hl8⟩, fun R nR => lc_list (K := K) (a := lv) (xs := vs.map V.int) (fun i H' => Same H8 H' ∧ H' R = some (.lst [])) ⟨same_upd nR, upd_same⟩ (fun i H' _ hP => SqL.of (hP.1 _ _ hl8)) (fun j x H9 hx hP => ?_) (fun H9 hP => ?_)⟩
      · obtain ⟨sm9, hR⟩ := hP
        obtain ⟨v, hv, rfl⟩ : ∃ v, v ∈ vs ∧ x = V.int v := by
          rw [List.getElem?_map] at hx
          cases e : vs[j]? with
          | none => rw [e] at hx; cases hx
          | some v => rw [e] at hx; exact ⟨v, List.mem_of_getElem? e, (Option.some.inj hx).symm⟩
        exact ⟨rfl, _, rfl, _, rfl, p, o, st, m, v, rfl, sm9 _ _ hT8, ok, hvs v hv, fun HA smA => ⟨_, rfl, iteF ⟨sm9.trans smA, smA _ _ hR⟩⟩⟩
      obtain ⟨sm9, hR⟩ := hP
      refine ⟨by decide, fun z nz => ?_⟩
      have smZ : Same H9 (upd H9 z (.lst [])) := same_upd nz
      have hR2 : (upd H9 z (.lst [])) R = some (.lst []) := smZ _ _ hR
      refine ⟨.list [], .list [], .lst (SqL.of hR2) .nil, .lst (SqL.of upd_same) .nil, PySem.W.shaped_ints [], PySem.W.shaped_ints [], _, rfl, iteN rfl ?_⟩
      have smX := sm9.trans smZ
      generalize upd H9 z (.lst []) = HA at smX ⊢
      have hTA : SideAt HA p o st m := smX _ _ hT8
      refine ⟨_, rfl, _, rfl, p, o, st, m, lv, vs, rfl, hTA, ok, smX _ _ hl8, hvs, fun HB smB => ⟨_, rfl, iteF ?_⟩⟩
      have hTB : SideAt HB p o st m := smB _ _ hTA
      have sB := (s8.same smX).same smB
      -- less
      have ehe : (if decide (m = .he) = true then (1 : Int) else 0) = if m = .he then 1 else 0 := by
        by_cases c : m = .he
        · rw [decide_eq_true c, if_pos rfl, if_pos c]
        · rw [decide_eq_false c, if_neg c]
          rfl
      refine ⟨_, rfl, p, _, _, _, rfl, rfl, SqT.of hTB, atI_nat (j := 0) rfl, _, rfl, p, _, _, _, rfl, rfl, SqT.of hTB, atI_nat (j := 1) rfl, _, rfl, p, _, _, _, rfl, rfl, SqT.of hTB, atI_nat (j := 2) rfl, rfl,
        .inr ⟨decide (m = .he), congrArg (fun b => [V.bl b]) (dec_md m .he), _, _, rfl, rfl, _, _, rfl, rfl, ?_, ?_⟩⟩
      · refine .inr ?_
        cases decide (m = .he) <;> decide
      refine ⟨_, rfl, a, c, _, 9, rfl, sB, by omega, by decide, by decide, fun r HC r0 r1 kC sC => ?_⟩
      have hTC := hTB.kp sB kC
      refine ⟨_, _, rfl, rfl, .inr ⟨by omega, by omega⟩, _, _, rfl, rfl, ?_⟩
      have okl : Ok (o - st * (1 + if decide (m = .he) = true then (1 : Int) else 0) * r) st := by
        have b1 : 0 ≤ st * (1 + if decide (m = .he) = true then (1 : Int) else 0) ∧ st * (1 + if decide (m = .he) = true then (1 : Int) else 0) ≤ 2 * 10 ^ 30 := by
          cases decide (m = .he)
          · rw [if_neg Bool.false_ne_true]
            omega
          · rw [if_pos rfl]
            omega
        generalize st * (1 + if decide (m = .he) = true then (1 : Int) else 0) = u at b1 ⊢
        have b2 : 0 ≤ u * r ∧ u * r ≤ 16 * 10 ^ 30 := by
          have : r = 0 ∨ r = 1 ∨ r = 2 ∨ r = 3 ∨ r = 4 ∨ r = 5 ∨ r = 6 ∨ r = 7 ∨ r = 8 := by omega
          rcases this with rfl | rfl | rfl | rfl | rfl | rfl | rfl | rfl | rfl <;> omega
        exact ⟨by omega, by omega, st1, st2⟩
      -- the second if
      refine ⟨_, rfl, _, rfl, p, _, _, _, rfl, rfl, SqT.of hTC, atI_nat (j := 1) rfl, _, rfl, p, _, _, _, rfl, rfl, SqT.of hTC, atI_nat (j := 2) rfl, (by show 3 ≤ sizeLine; decide), fun t nt => ?_⟩
      have smt : Same HC (upd HC t (.tup (sd (o - st * (1 + if decide (m = .he) = true then (1 : Int) else 0) * r) st m))) := same_upd nt
      refine ⟨t, o - st * (1 + if decide (m = .he) = true then (1 : Int) else 0) * r, st, m, rfl, upd_same, okl, fun f1 HD smD nf1 hF1 => ?_⟩
      have smCD := smt.trans smD
      refine ⟨_, rfl, p, o, st, m, rfl, smCD _ _ hTC, ok, fun f2 HE smE nf2 hF2 => ?_⟩
      have hF1E := smE _ _ hF1
      refine ⟨_, _, SideAt.dp hF1E, hF2.dp, shaped_sd _ _ _, shaped_sd _ _ _, _, rfl, ?_⟩
      have hc : fO (o - st * (1 + if decide (m = .he) = true then (1 : Int) else 0) * r) st m = fO o st m ∧ st = st ∧ fM st m = fM st m := by
        refine ⟨?_, rfl, rfl⟩
        rw [ehe]
        exact fO_shift o st m r st1
      rw [eqv_sd, decide_eq_true hc]
      refine iteF ?_
      have smCE := smCD.trans smE
      refine ⟨_, rfl, a, c, _, rfl, sC.same smCE, by omega, fun HF kF sF => ⟨_, rfl, iteF ?_⟩⟩
      exact ⟨_, _, _, _, _, _, _, rfl, sF.mono (by omega)⟩
    · obtain ⟨v2, v3, v4, v5, v6, v7, v8, rfl, s2⟩ := hP
      refine ⟨3, rfl, (by show 3 ≤ sizeLine; decide), fun t1 nt1 => ?_⟩
      refine ⟨t1, -3, 10, .he, rfl, upd_same, ⟨by decide, by decide, by decide, by decide⟩, fun f1 H3 sm3 nf1 hF1 => ?_⟩
      refine ⟨(by show 3 ≤ sizeLine; decide), fun t2 nt2 => ?_⟩
      have hF1' : SideAt (upd H3 t2 (.tup (sd 17 10 .he))) f1 (fO (-3) 10 .he) 10 (fM 10 .he) := (same_upd nt2) _ _ hF1
      have hG1 : SideAt (upd H3 t2 (.tup (sd 17 10 .he))) t2 17 10 .he := upd_same
      refine ⟨_, _, hF1'.dp, hG1.dp, shaped_sd _ _ _, shaped_sd _ _ _, true, ?_, iteT ?_⟩
      · rw [eqv_sd]
        exact congrArg V.bl (decide_eq_true (by decide))
      refine ⟨(by show 3 ≤ sizeLine; decide), fun t3 nt3 => ?_⟩
      refine ⟨t3, 7, 5, .he, rfl, upd_same, ⟨by decide, by decide, by decide, by decide⟩, fun f2 H4 sm4 nf2 hF2 => ?_⟩
      refine ⟨(by show 3 ≤ sizeLine; decide), fun t4 nt4 => ?_⟩
      have hF2' : SideAt (upd H4 t4 (.tup (sd 2 5 .hd))) f2 (fO 7 5 .he) 5 (fM 5 .he) := (same_upd nt4) _ _ hF2
      have hG2 : SideAt (upd H4 t4 (.tup (sd 2 5 .hd))) t4 2 5 .hd := upd_same
      refine ⟨_, _, hF2'.dp, hG2.dp, shaped_sd _ _ _, shaped_sd _ _ _, ?_⟩
      have e : PyData.eqv (sdD (fO 7 5 .he) 5 (fM 5 .he)) (sdD 2 5 .hd) = true := by
        rw [eqv_sd]
        exact decide_eq_true (by decide)
      rw [e]
      exact q _
end
end K7
namespace K7
open PySem PySem.Spec PyProof.Rows L2
/-! ### what the top has written (each a fact that k_is finds) -/
theorem mkD {K : PySem.W.Frag} {h : Heap} {mg : Str → Option Value} (X : K.In h) (G : h.Ns mainGlobals mg) {x : Str} {st : Stmt} {ps : List Str} {f : Addr} {oc : Value} {od an : Option Addr} {osl : Array (Option Value)} {kV doc pm cdv ct : Value}
    (a : PySem.W.nsIn K mainGlobals x = some (some (.ref f))) (l : K.lookup f = some ⟨oc, od, .func (PySem.W.fnOf x x (defArgs st) (defBody st) (defScope st) .none kV doc pm an cdv ct), osl⟩)
    (c : PySem.W.codeIn K cdv x = true) (k : PySem.W.keepIn K (.ref f) = true)
    (hb : ∀ (kV doc pm : Value) (an : Option Addr) (cdv ct : Value) (us : List Value), us.length = ps.length → bindArgs (PySem.W.fnOf x x (defArgs st) (defBody st) (defScope st) .none kV doc pm an cdv ct) ⟨us, []⟩ = pure (ps.zip us)) :
    D7 K mg x st ps f (PySem.W.fnOf x x (defArgs st) (defBody st) (defScope st) .none kV doc pm an cdv ct) :=
  have F := fun_mk l c k
  ⟨F, F.binds hb, PySem.W.mg_of X G a⟩
theorem mkMd {K : PySem.W.Frag} {p : Addr} {dd : Option Addr} {n : Nat} {sl : Array (Option Value)} {t1 t2 t3 t4 t5 : Tok}
    (h : K.lookup p = some ⟨.type "tuple", dd, .seq #[.str "down" t1, .str "up" t2, .str "half_down" t3, .str "half_up" t4, .str "half_even" t5] n, sl⟩) : ∀ H, SqT K H p (five.map mv) := fun H =>
  .inr ⟨_, _, _, h, rfl, rfl, by show 5 ≤ sizeLine; decide, .cons ⟨_, rfl⟩ (.cons ⟨_, rfl⟩ (.cons ⟨_, rfl⟩ (.cons ⟨_, rfl⟩ (.cons ⟨_, rfl⟩ .nil))))⟩
theorem mkMi {K : PySem.W.Frag} {w : World} {p : Addr} {es : Array DictEntry} {n : Nat} {t1 t2 t3 t4 t5 : Tok} (h : K.lookup p = some ⟨.type "dict", none, .dict es n, #[]⟩) (hk : PySem.W.KeysLit w.params es.toList)
    (a1 : PySem.W.nsIn K p "down" = some (some (.str "up" t1))) (a2 : PySem.W.nsIn K p "up" = some (some (.str "down" t2))) (a3 : PySem.W.nsIn K p "half_down" = some (some (.str "half_up" t3)))
    (a4 : PySem.W.nsIn K p "half_up" = some (some (.str "half_down" t4))) (a5 : PySem.W.nsIn K p "half_even" = some (some (.str "half_even" t5))) : ∀ m : Md, KDct K w p m.str (mv m.mir)
  | .dn => ⟨_, _, _, h, hk, a1, ⟨_, rfl⟩⟩
  | .up => ⟨_, _, _, h, hk, a2, ⟨_, rfl⟩⟩
  | .hd => ⟨_, _, _, h, hk, a3, ⟨_, rfl⟩⟩
  | .hu => ⟨_, _, _, h, hk, a4, ⟨_, rfl⟩⟩
  | .he => ⟨_, _, _, h, hk, a5, ⟨_, rfl⟩⟩
theorem mkG {K : PySem.W.Frag} {w : World} {h : Heap} {mg : Str → Option Value} (X : K.In h) (G : h.Ns mainGlobals mg)
    (z1 : PySem.W.nsIn K mainGlobals "isinstance" = some none) (z2 : PySem.W.nsIn K mainGlobals "int" = some none) (z3 : PySem.W.nsIn K mainGlobals "bool" = some none) (z4 : PySem.W.nsIn K mainGlobals "tuple" = some none)
    (z5 : PySem.W.nsIn K mainGlobals "len" = some none) (z6 : PySem.W.nsIn K mainGlobals "abs" = some none) (z7 : PySem.W.nsIn K mainGlobals "str" = some none) (z8 : PySem.W.nsIn K mainGlobals "range" = some none)
    {tg to : Tok} (gs : PySem.W.nsIn K mainGlobals "GREATEST_STEP" = some (some (.int 1000000000000000000000000000000 tg))) (go : PySem.W.nsIn K mainGlobals "GREATEST_OFFSET" = some (some (.int 10000000000000000000000000000000000000000 to)))
    {pm pd : Addr} (md : PySem.W.nsIn K mainGlobals "MODES" = some (some (.ref pm))) (mi : PySem.W.nsIn K mainGlobals "MIRRORED" = some (some (.ref pd)))
    (hm : ∀ H, SqT K H pm (five.map mv)) (hi : ∀ m : Md, KDct K w pd m.str (mv m.mir)) : G7 K w mg where
  isi := PySem.W.mg_none_of X G z1
  int := PySem.W.mg_none_of X G z2
  bool := PySem.W.mg_none_of X G z3
  tuple := PySem.W.mg_none_of X G z4
  len := PySem.W.mg_none_of X G z5
  abs := PySem.W.mg_none_of X G z6
  str := PySem.W.mg_none_of X G z7
  range := PySem.W.mg_none_of X G z8
  gs := ⟨_, PySem.W.mg_of X G gs⟩
  go := ⟨_, PySem.W.mg_of X G go⟩
  md := ⟨pm, PySem.W.mg_of X G md, hm⟩
  mi := ⟨pd, PySem.W.mg_of X G mi, hi⟩
theorem finish {l : PySem.W.OpenLaw} {w : World} {K : PySem.W.Frag} {mg : Str → Option Value} {fa : Addr} (hfa : mg "law" = some (.ref fa)) (D : All7 K mg) (T : G7 K w mg) :
    ∃ fd : FuncData, (∀ (s : Shared) (v : Value), BindsTo s fd ⟨[v], []⟩ [("_law_script", v)]) ∧ ∀ base : Heap, K.In base → base.Ns mainGlobals mg → FnOk l.prog w K mg base CX0 6 fa fd ["_law_script"] (spLaw K) := by
  have e := hfa.symm.trans D.D34.g
  cases e
  refine ⟨D.d34, ?_, fun base _ _ => ok_law D T⟩
  intro s v
  obtain ⟨oc, od, kV, doc, pm, an, cdv, ct, osl, e, _, _⟩ := D.D34.F.ex
  rw [e]
  exact .of_eq rfl
end K7
open PySem PySem.W PyProof.Rows
set_option maxRecDepth 100000 in
set_option maxHeartbeats 0 in
theorem PySem.Challenge.cw_handedtext_k07_whole_mirrors_and_forms_holds : PySem.Challenge.rw_handedtext_k07_whole_mirrors_and_forms.Holds := by
  w_on; o_law; k_head; (case hw => w_witness2)
  k_fill
  refine L2.walk_of (l := PySem.Challenge.rw_handedtext_k07_whole_mirrors_and_forms) (n := 63) (k := 6) (x := "_law_script") (CX := fun _ => L2.CX0) (sp := fun w => K7.spLaw _) rfl (by decide) rfl ⟨rfl, by decide, by decide⟩ (fun w h Y => PySem.W.kIn_of Y) ?F (fun _ _ a ns hl _ hS => ⟨a, ns, rfl, hS, hl, fun _ => rfl⟩) (fun _ _ _ _ _ h => h)
  case F =>
    intro w mg fa h KX G hmg
    refine' K7.finish hmg ⟨_, _, K7.mkD KX G ?a9 ?l9 ?c9 ?k9 (fun _ _ _ _ _ _ us hl => match us, hl with | [_], _ => rfl),
      _, _, K7.mkD KX G ?a10 ?l10 ?c10 ?k10 (fun _ _ _ _ _ _ us hl => match us, hl with | [_], _ => rfl),
      _, _, K7.mkD KX G ?a11 ?l11 ?c11 ?k11 (fun _ _ _ _ _ _ us hl => match us, hl with | [_], _ => rfl),
      _, _, K7.mkD KX G ?a12 ?l12 ?c12 ?k12 (fun _ _ _ _ _ _ us hl => match us, hl with | [_], _ => rfl),
      _, _, K7.mkD KX G ?a13 ?l13 ?c13 ?k13 (fun _ _ _ _ _ _ us hl => match us, hl with | [_, _], _ => rfl),
      _, _, K7.mkD KX G ?a14 ?l14 ?c14 ?k14 (fun _ _ _ _ _ _ us hl => match us, hl with | [_, _], _ => rfl),
      _, _, K7.mkD KX G ?a15 ?l15 ?c15 ?k15 (fun _ _ _ _ _ _ us hl => match us, hl with | [_, _], _ => rfl),
      _, _, K7.mkD KX G ?a16 ?l16 ?c16 ?k16 (fun _ _ _ _ _ _ us hl => match us, hl with | [_, _], _ => rfl),
      _, _, K7.mkD KX G ?a17 ?l17 ?c17 ?k17 (fun _ _ _ _ _ _ us hl => match us, hl with | [_], _ => rfl),
      _, _, K7.mkD KX G ?a18 ?l18 ?c18 ?k18 (fun _ _ _ _ _ _ us hl => match us, hl with | [_], _ => rfl),
      _, _, K7.mkD KX G ?a19 ?l19 ?c19 ?k19 (fun _ _ _ _ _ _ us hl => match us, hl with | [_], _ => rfl),
      _, _, K7.mkD KX G ?a20 ?l20 ?c20 ?k20 (fun _ _ _ _ _ _ us hl => match us, hl with | [_], _ => rfl),
      _, _, K7.mkD KX G ?a21 ?l21 ?c21 ?k21 (fun _ _ _ _ _ _ us hl => match us, hl with | [_], _ => rfl),
      _, _, K7.mkD KX G ?a23 ?l23 ?c23 ?k23 (fun _ _ _ _ _ _ us hl => match us, hl with | [_], _ => rfl),
      _, _, K7.mkD KX G ?a24 ?l24 ?c24 ?k24 (fun _ _ _ _ _ _ us hl => match us, hl with | [_, _], _ => rfl),
      _, _, K7.mkD KX G ?a25 ?l25 ?c25 ?k25 (fun _ _ _ _ _ _ us hl => match us, hl with | [_, _], _ => rfl),
      _, _, K7.mkD KX G ?a26 ?l26 ?c26 ?k26 (fun _ _ _ _ _ _ us hl => match us, hl with | [_, _], _ => rfl),
      _, _, K7.mkD KX G ?a27 ?l27 ?c27 ?k27 (fun _ _ _ _ _ _ us hl => match us, hl with | [_, _], _ => rfl),
      _, _, K7.mkD KX G ?a28 ?l28 ?c28 ?k28 (fun _ _ _ _ _ _ us hl => match us, hl with | [_, _], _ => rfl),
      _, _, K7.mkD KX G ?a29 ?l29 ?c29 ?k29 (fun _ _ _ _ _ _ us hl => match us, hl with | [_, _], _ => rfl),
      _, _, K7.mkD KX G ?a30 ?l30 ?c30 ?k30 (fun _ _ _ _ _ _ us hl => match us, hl with | [_, _], _ => rfl),
      _, _, K7.mkD KX G ?a31 ?l31 ?c31 ?k31 (fun _ _ _ _ _ _ us hl => match us, hl with | [_, _], _ => rfl),
      _, _, K7.mkD KX G ?a32 ?l32 ?c32 ?k32 (fun _ _ _ _ _ _ us hl => match us, hl with | [_], _ => rfl),
      _, _, K7.mkD KX G ?a33 ?l33 ?c33 ?k33 (fun _ _ _ _ _ _ us hl => match us, hl with | [_], _ => rfl),
      _, _, K7.mkD KX G ?a34 ?l34 ?c34 ?k34 (fun _ _ _ _ _ _ us hl => match us, hl with | [_], _ => rfl)⟩ (K7.mkG KX G ?z1 ?z2 ?z3 ?z4 ?z5 ?z6 ?z7 ?z8 ?gs ?go ?md ?mi (K7.mkMd ?lm) (K7.mkMi ?ld ?lk ?m1 ?m2 ?m3 ?m4 ?m5))
    (case a9 => k_is)
    (case l9 => k_is)
    (case c9 => k_is)
    (case k9 => k_is)
    (case a10 => k_is)
    (case l10 => k_is)
    (case c10 => k_is)
    (case k10 => k_is)
    (case a11 => k_is)
    (case l11 => k_is)
    (case c11 => k_is)
    (case k11 => k_is)
    (case a12 => k_is)
    (case l12 => k_is)
    (case c12 => k_is)
    (case k12 => k_is)
    (case a13 => k_is)
    (case l13 => k_is)
    (case c13 => k_is)
    (case k13 => k_is)
    (case a14 => k_is)
    (case l14 => k_is)
    (case c14 => k_is)
    (case k14 => k_is)
    (case a15 => k_is)
    (case l15 => k_is)
    (case c15 => k_is)
    (case k15 => k_is)
    (case a16 => k_is)
    (case l16 => k_is)
    (case c16 => k_is)
    (case k16 => k_is)
    (case a17 => k_is)
    (case l17 => k_is)
    (case c17 => k_is)
    (case k17 => k_is)
    (case a18 => k_is)
    (case l18 => k_is)
    (case c18 => k_is)
    (case k18 => k_is)
    (case a19 => k_is)
    (case l19 => k_is)
    (case c19 => k_is)
    (case k19 => k_is)
    (case a20 => k_is)
    (case l20 => k_is)
    (case c20 => k_is)
    (case k20 => k_is)
    (case a21 => k_is)
    (case l21 => k_is)
    (case c21 => k_is)
    (case k21 => k_is)
    (case a23 => k_is)
    (case l23 => k_is)
    (case c23 => k_is)
    (case k23 => k_is)
    (case a24 => k_is)
    (case l24 => k_is)
    (case c24 => k_is)
    (case k24 => k_is)
    (case a25 => k_is)
    (case l25 => k_is)
    (case c25 => k_is)
    (case k25 => k_is)
    (case a26 => k_is)
    (case l26 => k_is)
    (case c26 => k_is)
    (case k26 => k_is)
    (case a27 => k_is)
    (case l27 => k_is)
    (case c27 => k_is)
    (case k27 => k_is)
    (case a28 => k_is)
    (case l28 => k_is)
    (case c28 => k_is)
    (case k28 => k_is)
    (case a29 => k_is)
    (case l29 => k_is)
    (case c29 => k_is)
    (case k29 => k_is)
    (case a30 => k_is)
    (case l30 => k_is)
    (case c30 => k_is)
    (case k30 => k_is)
    (case a31 => k_is)
    (case l31 => k_is)
    (case c31 => k_is)
    (case k31 => k_is)
    (case a32 => k_is)
    (case l32 => k_is)
    (case c32 => k_is)
    (case k32 => k_is)
    (case a33 => k_is)
    (case l33 => k_is)
    (case c33 => k_is)
    (case k33 => k_is)
    (case a34 => k_is)
    (case l34 => k_is)
    (case c34 => k_is)
    (case k34 => k_is)
    (case z1 => k_is)
    (case z2 => k_is)
    (case z3 => k_is)
    (case z4 => k_is)
    (case z5 => k_is)
    (case z6 => k_is)
    (case z7 => k_is)
    (case z8 => k_is)
    (case gs => k_is)
    (case go => k_is)
    (case md => k_is)
    (case mi => k_is)
    (case lm => k_is)
    (case ld => k_is)
    (case lk => k_keys)
    (case m1 => k_is)
    (case m2 => k_is)
    (case m3 => k_is)
    (case m4 => k_is)
    (case m5 => k_is)
