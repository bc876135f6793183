import PyProof.Rows.All
import Wide.All
import OpenK.AllK
import Wide.FinOn
import PyProof.EqAt
import PyProof.EqKinds
import PyProof.TupleCall
import HandS.Base
import HandS.Call
import HandS.List
import HandS.Comp
import HandS.Ends
import HandS.Words
import HandS.Dict
import HandS.Iter
import HandS.Defaults
import HandS.More
import HandS.Conv
import HandS.Evl
import HandS.Style
import HandS.IsInst
import HandS.WideBits
import PySem.Challenge.RW_seamlayers_k94_whole_kinds_in_one_anothe
import KE.KDictDisplayH
import HandS.TupSets
import KE.KStateDown
import HandS.Head0
import HandS.Head1
import HandS.Head2
import HandS.HeadEnd
import HandS.HeadHook1
import HandS.HeadHook2
import HandS.HeadHook3
import HandS.HeadHook4
set_option Elab.async false
set_option linter.all false
set_option maxRecDepth 100000
set_option maxHeartbeats 4000000
/-! The mathematics, in plain Lean: orders as lists of ints, m = true for mirror orders, false for plain ones (and for the plain ones among the ring orders). -/
namespace SL

/-! ### what the program computes -/
def gd (o : List Int) (i : Nat) : Int := o.getD i 0
def b2z (b : Bool) : Int := if b = true then 1 else 0
def ab (x : Int) : Int := if x < 0 then -x else x
def sg (x : Int) : Int := if 0 < x then 1 else -1
/-- the steps that matter: the ring's last one is no fall of a plain order -/
def nst (m : Bool) (n : Nat) : Nat := if m = true then n else n - 1
def rg (a n : Nat) : List Int := (List.range n).map fun i => ((a + i : Nat) : Int)
def strt (m : Bool) (n : Nat) : List Int := if m = true then rg 1 n else rg 0 n
def cr (m : Bool) (o : List Int) (j : Nat) : Bool :=
  if m = true then (match j with
    | 0 => decide (gd o 0 < 0)
    | i + 1 => decide (gd o (i + 1) < gd o i))
  else decide (gd o (j + 1) < gd o j)
def swp (o : List Int) (i : Nat) : List Int := (o.set i (gd o (i + 1))).set (i + 1) (gd o i)
def stp (m : Bool) (o : List Int) (j : Nat) : List Int :=
  if m = true then (match j with
    | 0 => o.set 0 (-(gd o 0))
    | i + 1 => swp o i)
  else swp o j
def fls (m : Bool) (n : Nat) (o : List Int) : List Nat := (List.range (nst m n)).filter (cr m o)
def ends (m : Bool) (n : Nat) : Nat → List Int → Bool
  | 0, o => (match fls m n o with
    | [] => true
    | _ :: _ => false)
  | f + 1, o => (match fls m n o with
    | [] => true
    | j :: _ => ends m n f (stp m o j))
/-- the falls that are taken, from the order down to the start -/
def down (m : Bool) (n : Nat) : Nat → List Int → List Nat
  | 0, _ => []
  | f + 1, o => (match fls m n o with
    | [] => []
    | j :: _ => j :: down m n f (stp m o j))
def lrow (m : Bool) (n : Nat) (o : List Int) : List Nat := (down m n 16 o).reverse
def gain (m : Bool) (o : List Int) (j : Nat) : List Int := if cr m o j = true then o else stp m o j
def gains (m : Bool) (o : List Int) (r : List Nat) : List Int := r.foldl (gain m) o
def grd (m : Bool) (n : Nat) (a b : List Int) : List Int := gains m a (lrow m n b)
def pow (m : Bool) (n : Nat) (o : List Int) : Nat → List Int
  | 0 => strt m n
  | c + 1 => grd m n (pow m n o c) o
def powGo (m : Bool) (n : Nat) (o : List Int) : Nat → List Int → List Int
  | 0, acc => acc
  | c + 1, acc => if grd m n acc o = acc then acc else powGo m n o c (grd m n acc o)
def lss (m : Bool) (o : List Int) (j : Nat) : List Int := if cr m o j = true then stp m o j else o
def blw (m : Bool) (n : Nat) : Nat → List Int → List Int → List Int
  | 0, low, _ => low
  | f + 1, low, high => (match fls m n high with
    | [] => low
    | j :: _ => blw m n f (lss m low j) (stp m high j))
def bel (m : Bool) (n : Nat) (a b : List Int) : Bool := decide (blw m n 16 a b = strt m n)
def cb (m : Bool) (x y : Int) : Int := b2z (decide (y < x)) + b2z (m && decide (x + y < 0))
def crIn (m : Bool) (x : Int) : List Int → Int → Int
  | [], s => s
  | y :: t, s => crIn m x t (s + cb m x y)
def crs (m : Bool) : List Int → Int → Int
  | [], s => s
  | x :: t, s => crs m t (crIn m x t s + b2z (m && decide (x < 0)))
def ix (m : Bool) (x : Int) : Nat := if m = true then (ab x - 1).toNat else x.toNat
def vl (m : Bool) (k : Nat) (x : Int) : Int := if m = true then ((k : Int) + 1) * sg x else (k : Int)
def opGo (m : Bool) : List Int → Nat → List Int → List Int
  | [], _, acc => acc
  | x :: t, k, acc => opGo m t (k + 1) (acc.set (ix m x) (vl m k x))
def opp (m : Bool) (n : Nat) (o : List Int) : List Int := opGo m o 0 (List.replicate n 0)
def itm (m : Bool) (o : List Int) (p : Int) : Int := if m = true then gd o (ab p - 1).toNat * sg p else gd o p.toNat
def prd (m : Bool) (a b : List Int) : List Int := b.map (itm m a)
def unf (n : Nat) (o : List Int) : List Int := (o.reverse.map (fun x => -x) ++ o).map fun x => x + (n : Int) - b2z (decide (0 < x))
def sym (n : Nat) (o : List Int) : Bool := (List.range n).all fun i => decide (gd o i + gd o (2 * n - 1 - i) = 2 * (n : Int) - 1)
def fld (n : Nat) (o : List Int) : List Int := (o.drop n).map fun r => r - (n : Int) + b2z (decide ((n : Int) ≤ r))
def negs (o : List Int) : Nat := (o.filter fun x => decide (x < 0)).length

/-! ### valid orders -/
def Vd (m : Bool) (n : Nat) (o : List Int) : Prop := if m = true then (o.map ab).Perm (rg 1 n) else o.Perm (rg 0 n)
theorem vd_m {n : Nat} {o : List Int} (h : (o.map ab).Perm (rg 1 n)) : Vd true n o := h
theorem vd_p {n : Nat} {o : List Int} (h : o.Perm (rg 0 n)) : Vd false n o := h
theorem rg_len (a n : Nat) : (rg a n).length = n := by unfold rg; simp
theorem mem_rg {a n : Nat} {x : Int} (h : x ∈ rg a n) : (a : Int) ≤ x ∧ x < (a : Int) + n := by
  unfold rg at h
  obtain ⟨i, hi, e⟩ := List.mem_map.mp h
  have := List.mem_range.mp hi
  omega
theorem Vd.len {m : Bool} {n : Nat} {o : List Int} (h : Vd m n o) : o.length = n := by
  cases m with
  | true =>
    have h1 : (o.map ab).Perm (rg 1 n) := h
    have := h1.length_eq
    rw [List.length_map, rg_len] at this
    exact this
  | false =>
    have h1 : o.Perm (rg 0 n) := h
    rw [h1.length_eq, rg_len]
theorem Vd.memP {n : Nat} {o : List Int} (h : Vd false n o) {x : Int} (hx : x ∈ o) : 0 ≤ x ∧ x < n := by
  have h1 : o.Perm (rg 0 n) := h
  have := mem_rg (h1.mem_iff.mp hx)
  omega
theorem Vd.memM {n : Nat} {o : List Int} (h : Vd true n o) {x : Int} (hx : x ∈ o) : 1 ≤ ab x ∧ ab x ≤ n := by
  have h1 : (o.map ab).Perm (rg 1 n) := h
  have := mem_rg (h1.mem_iff.mp (List.mem_map_of_mem hx))
  omega
theorem gd_lt {o : List Int} {i : Nat} (h : i < o.length) : o[i]? = some (gd o i) := by
  unfold gd
  rw [List.getD_eq_getElem?_getD, List.getElem?_eq_getElem h]
  rfl
theorem gd_eq {o : List Int} {i : Nat} (h : i < o.length) : gd o i = o[i] := by
  unfold gd
  rw [List.getD_eq_getElem?_getD, List.getElem?_eq_getElem h]
  rfl
theorem gd_mem {o : List Int} {i : Nat} (h : i < o.length) : gd o i ∈ o := by
  rw [gd_eq h]
  exact List.getElem_mem h
theorem swp_perm {o : List Int} {i : Nat} (h : i + 1 < o.length) : (swp o i).Perm o := by
  unfold swp
  rw [gd_eq h, gd_eq (Nat.lt_of_succ_lt h)]
  exact List.set_set_perm (Nat.lt_of_succ_lt h) h
theorem ab_neg (x : Int) : ab (-x) = ab x := by
  unfold ab
  split <;> split <;> omega
theorem Vd.stp {m : Bool} {n j : Nat} {o : List Int} (h : Vd m n o) (hj : j < nst m n) : Vd m n (stp m o j) := by
  have hl := h.len
  cases m with
  | true =>
    have h1 : (o.map ab).Perm (rg 1 n) := h
    have hj' : j < n := hj
    cases j with
    | zero =>
      show ((o.set 0 (-(gd o 0))).map ab).Perm (rg 1 n)
      have e : (o.set 0 (-(gd o 0))).map ab = o.map ab := by
        cases o with
        | nil => rfl
        | cons x t =>
          show ab (-x) :: t.map ab = ab x :: t.map ab
          rw [ab_neg]
      rw [e]
      exact h1
    | succ i =>
      show ((swp o i).map ab).Perm (rg 1 n)
      exact ((swp_perm (by omega)).map ab).trans h1
  | false =>
    have h1 : o.Perm (rg 0 n) := h
    have hj' : j < n - 1 := hj
    show (swp o j).Perm (rg 0 n)
    exact (swp_perm (by omega)).trans h1
theorem mem_fls {m : Bool} {n j : Nat} {o : List Int} (h : j ∈ fls m n o) : j < nst m n ∧ cr m o j = true := by
  unfold fls at h
  obtain ⟨a, b⟩ := List.mem_filter.mp h
  exact ⟨List.mem_range.mp a, b⟩
theorem Vd.gain {m : Bool} {n j : Nat} {o : List Int} (h : Vd m n o) (hj : j < nst m n) : Vd m n (gain m o j) := by
  unfold SL.gain
  split
  · exact h
  · exact h.stp hj
theorem Vd.lss {m : Bool} {n j : Nat} {o : List Int} (h : Vd m n o) (hj : j < nst m n) : Vd m n (lss m o j) := by
  unfold SL.lss
  split
  · exact h.stp hj
  · exact h
theorem Vd.gains {m : Bool} {n : Nat} : ∀ {r : List Nat} {o : List Int}, Vd m n o → (∀ j ∈ r, j < nst m n) → Vd m n (gains m o r)
  | [], _, h, _ => h
  | j :: r, o, h, hr => by
    show Vd m n (SL.gains m (SL.gain m o j) r)
    exact Vd.gains (h.gain (hr j List.mem_cons_self)) fun i hi => hr i (List.mem_cons_of_mem _ hi)
theorem down_lt {m : Bool} {n : Nat} : ∀ (f : Nat) (o : List Int), ∀ j ∈ down m n f o, j < nst m n
  | 0, _, j, h => by cases h
  | f + 1, o, j, h => by
    unfold down at h
    cases e : fls m n o with
    | nil =>
      rw [e] at h
      cases h
    | cons i t =>
      rw [e] at h
      rcases List.mem_cons.mp h with rfl | h
      · exact (mem_fls (m := m) (n := n) (o := o) (by rw [e]; exact List.mem_cons_self)).1
      · exact down_lt f _ j h
theorem lrow_lt {m : Bool} {n : Nat} {o : List Int} : ∀ j ∈ lrow m n o, j < nst m n := fun j h => down_lt 16 o j (List.mem_reverse.mp h)
theorem Vd.grd {m : Bool} {n : Nat} {a b : List Int} (h : Vd m n a) : Vd m n (grd m n a b) := h.gains lrow_lt
theorem vd_strt (m : Bool) (n : Nat) : Vd m n (strt m n) := by
  cases m with
  | true =>
    show ((rg 1 n).map ab).Perm (rg 1 n)
    have e : (rg 1 n).map ab = rg 1 n := by
      have : (rg 1 n).map ab = (rg 1 n).map id := List.map_congr_left fun x hx => by
        have := mem_rg hx
        unfold ab
        rw [if_neg (by omega)]
        rfl
      rw [this, List.map_id]
    rw [e]
  | false => exact List.Perm.refl _
theorem Vd.pow {m : Bool} {n : Nat} {o : List Int} : ∀ c, Vd m n (pow m n o c)
  | 0 => vd_strt m n
  | c + 1 => (Vd.pow c).grd
theorem powGo_fix {m : Bool} {n : Nat} {o acc : List Int} (h : grd m n acc o = acc) : ∀ c, powGo m n o c acc = acc
  | 0 => rfl
  | c + 1 => by
    unfold powGo
    rw [if_pos h]
theorem pow_stay {m : Bool} {n : Nat} {o : List Int} {c : Nat} (h : grd m n (pow m n o c) o = pow m n o c) : ∀ d, pow m n o (c + d) = pow m n o c
  | 0 => rfl
  | d + 1 => by
    show grd m n (pow m n o (c + d)) o = pow m n o c
    rw [pow_stay h d]
    exact h
theorem powGo_pow {m : Bool} {n : Nat} {o : List Int} : ∀ c d, powGo m n o c (pow m n o d) = pow m n o (d + c)
  | 0, d => rfl
  | c + 1, d => by
    unfold powGo
    by_cases h : grd m n (pow m n o d) o = pow m n o d
    · rw [if_pos h, pow_stay h]
    · rw [if_neg h]
      have e : grd m n (pow m n o d) o = pow m n o (d + 1) := rfl
      rw [e, powGo_pow c (d + 1)]
      congr 1
      omega

/-! ### all orders, looked at one by one -/
def allP : Nat → List Int → (List Int → Bool) → Bool
  | 0, _, P => P []
  | n + 1, av, P => av.all fun x => allP n (av.erase x) fun t => P (x :: t)
def allS : Nat → List Int → (List Int → Bool) → Bool
  | 0, _, P => P []
  | n + 1, av, P => av.all fun x => allS n (av.erase x) (fun t => P (x :: t)) && allS n (av.erase x) fun t => P ((-x) :: t)
theorem allP_ok : ∀ (n : Nat) (av : List Int) (P : List Int → Bool), allP n av P = true → av.length = n → ∀ o : List Int, o.Perm av → P o = true
  | 0, av, P, h, hl, o, ho => by
    have e : o = [] := List.length_eq_zero_iff.mp (by rw [ho.length_eq, hl])
    rw [e]
    exact h
  | n + 1, av, P, h, hl, o, ho => by
    cases o with
    | nil =>
      have := ho.length_eq
      rw [hl] at this
      cases this
    | cons x t =>
      obtain ⟨hx, ht⟩ := List.cons_perm_iff_perm_erase.mp ho
      have h1 := List.all_eq_true.mp h x hx
      exact allP_ok n (av.erase x) (fun t => P (x :: t)) h1 (by rw [List.length_erase_of_mem hx, hl]; rfl) t ht
theorem allS_ok : ∀ (n : Nat) (av : List Int) (P : List Int → Bool), allS n av P = true → av.length = n → ∀ o : List Int, (o.map ab).Perm av → P o = true
  | 0, av, P, h, hl, o, ho => by
    have e : o.map ab = [] := List.length_eq_zero_iff.mp (by rw [ho.length_eq, hl])
    rw [List.map_eq_nil_iff.mp e]
    exact h
  | n + 1, av, P, h, hl, o, ho => by
    cases o with
    | nil =>
      have := ho.length_eq
      rw [hl] at this
      cases this
    | cons x t =>
      rw [List.map_cons] at ho
      obtain ⟨hx, ht⟩ := List.cons_perm_iff_perm_erase.mp ho
      have h1 := List.all_eq_true.mp h (ab x) hx
      rw [Bool.and_eq_true] at h1
      have hl2 : (av.erase (ab x)).length = n := by rw [List.length_erase_of_mem hx, hl]; rfl
      by_cases hx0 : x < 0
      · have e : -(ab x) = x := by unfold ab; rw [if_pos hx0]; omega
        have := allS_ok n _ _ h1.2 hl2 t ht
        rw [e] at this
        exact this
      · have e : ab x = x := by unfold ab; rw [if_neg hx0]
        have := allS_ok n _ _ h1.1 hl2 t ht
        rw [e] at this
        exact this
def every (m : Bool) (n : Nat) (P : List Int → Bool) : Bool := if m = true then allS n (rg 1 n) P else allP n (rg 0 n) P
theorem every_ok {m : Bool} {n : Nat} {P : List Int → Bool} (h : every m n P = true) {o : List Int} (ho : Vd m n o) : P o = true := by
  cases m with
  | true => exact allS_ok n _ P h (rg_len 1 n) o ho
  | false => exact allP_ok n _ P h (rg_len 0 n) o ho

/-! ### facts of plain orders up to the size 6, of mirror orders up to 3 -/
def top (m : Bool) : Nat := if m = true then 3 else 6
def okE (m : Bool) (n : Nat) (o : List Int) : Bool := ends m n 16 o && decide (0 ≤ crs m o 0) && decide (crs m o 0 ≤ 60)
theorem look_p : (List.range 7).all (fun n => every false n (okE false n)) = true := by decide +kernel
theorem look_m : (List.range 4).all (fun n => every true n (okE true n)) = true := by decide +kernel
theorem okE_of {m : Bool} {n : Nat} {o : List Int} (h : Vd m n o) (hn : n ≤ top m) : okE m n o = true := by
  cases m with
  | true => exact every_ok (List.all_eq_true.mp look_m n (List.mem_range.mpr (Nat.lt_succ_of_le hn))) h
  | false => exact every_ok (List.all_eq_true.mp look_p n (List.mem_range.mpr (Nat.lt_succ_of_le hn))) h
theorem Vd.ends {m : Bool} {n : Nat} {o : List Int} (h : Vd m n o) (hn : n ≤ top m) : ends m n 16 o = true := by
  have := okE_of h hn
  unfold okE at this
  simp only [Bool.and_eq_true] at this
  exact this.1.1
theorem Vd.crs60 {m : Bool} {n : Nat} {o : List Int} (h : Vd m n o) (hn : n ≤ top m) : crs m o 0 ≤ 60 := by
  have := okE_of h hn
  unfold okE at this
  simp only [Bool.and_eq_true] at this
  exact of_decide_eq_true this.2
end SL

set_option Elab.async false
set_option linter.all false
set_option maxRecDepth 100000
set_option maxHeartbeats 4000000
/-! Mirror orders of the sizes 1 to 3 in plain ones of twice the size. -/
namespace SL
def vdB (m : Bool) (n : Nat) (o : List Int) : Bool := if m = true then (o.map ab).isPerm (rg 1 n) else o.isPerm (rg 0 n)
theorem vdB_ok {m : Bool} {n : Nat} {o : List Int} (h : vdB m n o = true) : Vd m n o := by
  cases m with
  | true => exact List.isPerm_iff.mp (show (o.map ab).isPerm (rg 1 n) = true from h)
  | false => exact List.isPerm_iff.mp (show o.isPerm (rg 0 n) = true from h)
/-- one mirror order -/
def one (n : Nat) (o : List Int) : Bool :=
  vdB false (2 * n) (unf n o) && sym n (unf n o) && decide (fld n (unf n o) = o) && decide (crs false (unf n o) 0 = 2 * crs true o 0 - (negs o : Int))
    && vdB true n (opp true n o) && decide (unf n (opp true n o) = opp false (2 * n) (unf n o))
    && (List.range n).all fun j => cr true o j == cr false (unf n o) (n - 1 - j) && (cr true o j == cr false (unf n o) (n - 1 + j))
theorem look_one : (List.range 4).all (fun n => n == 0 || every true n (one n)) = true := by decide +kernel
/-- two mirror orders, the first one by its rows -/
def two (n : Nat) (b a : List Int) : Bool :=
  decide (unf n (grd true n a b) = grd false (2 * n) (unf n a) (unf n b)) && decide (unf n (prd true a b) = prd false (unf n a) (unf n b)) && vdB true n (prd true a b)
   && (bel true n a b == bel false (2 * n) (unf n a) (unf n b))
theorem look_two1 : every true 1 (fun b => every true 1 (two 1 b)) = true := by decide +kernel
theorem look_two2 : every true 2 (fun b => every true 2 (two 2 b)) = true := by decide +kernel

theorem look_two3 : every true 3 (fun b => every true 3 (two 3 b)) = true := by decide +kernel

/-- one plain order of twice the size -/
def back (n : Nat) (o : List Int) : Bool := !(sym n o) || (vdB true n (fld n o) && decide (unf n (fld n o) = o))
theorem look_back : (List.range 4).all (fun n => n == 0 || every false (2 * n) (back n)) = true := by decide +kernel

section
variable {n : Nat} {o a b : List Int}
theorem one_of (h1 : 1 ≤ n) (h3 : n ≤ 3) (h : Vd true n o) : one n o = true := by
  have := List.all_eq_true.mp look_one n (List.mem_range.mpr (by omega))
  rw [Bool.or_eq_true] at this
  rcases this with e | e
  · have : n = 0 := by simpa using e
    omega
  · exact every_ok e h
theorem one_all (h1 : 1 ≤ n) (h3 : n ≤ 3) (h : Vd true n o) : Vd false (2 * n) (unf n o) ∧ sym n (unf n o) = true ∧ fld n (unf n o) = o ∧ crs false (unf n o) 0 = 2 * crs true o 0 - (negs o : Int) ∧
    Vd true n (opp true n o) ∧ unf n (opp true n o) = opp false (2 * n) (unf n o) ∧ ∀ j, j < n → cr true o j = cr false (unf n o) (n - 1 - j) ∧ cr true o j = cr false (unf n o) (n - 1 + j) := by
  have e := one_of h1 h3 h
  unfold one at e
  rw [Bool.and_eq_true, Bool.and_eq_true, Bool.and_eq_true, Bool.and_eq_true, Bool.and_eq_true, Bool.and_eq_true] at e
  obtain ⟨⟨⟨⟨⟨⟨e1, e2⟩, e3⟩, e4⟩, e5⟩, e6⟩, e7⟩ := e
  refine ⟨vdB_ok e1, e2, of_decide_eq_true e3, of_decide_eq_true e4, vdB_ok e5, of_decide_eq_true e6, fun j hj => ?_⟩
  have := List.all_eq_true.mp e7 j (List.mem_range.mpr hj)
  rw [Bool.and_eq_true] at this
  exact ⟨eq_of_beq this.1, eq_of_beq this.2⟩
theorem two_of (h1 : 1 ≤ n) (h3 : n ≤ 3) (ha : Vd true n a) (hb : Vd true n b) : two n b a = true := by
  have : n = 1 ∨ n = 2 ∨ n = 3 := by omega
  rcases this with rfl | rfl | rfl
  · exact every_ok (every_ok (P := fun b => every true 1 (two 1 b)) look_two1 hb) ha
  · exact every_ok (every_ok (P := fun b => every true 2 (two 2 b)) look_two2 hb) ha
  · exact every_ok (every_ok (P := fun b => every true 3 (two 3 b)) look_two3 hb) ha
theorem two_all (h1 : 1 ≤ n) (h3 : n ≤ 3) (ha : Vd true n a) (hb : Vd true n b) : unf n (grd true n a b) = grd false (2 * n) (unf n a) (unf n b) ∧ unf n (prd true a b) = prd false (unf n a) (unf n b) ∧ Vd true n (prd true a b) ∧
    bel true n a b = bel false (2 * n) (unf n a) (unf n b) := by
  have e := two_of h1 h3 ha hb
  unfold two at e
  rw [Bool.and_eq_true, Bool.and_eq_true, Bool.and_eq_true] at e
  obtain ⟨⟨⟨e1, e2⟩, e3⟩, e4⟩ := e
  exact ⟨of_decide_eq_true e1, of_decide_eq_true e2, vdB_ok e3, eq_of_beq e4⟩
theorem unf_strt (h1 : 1 ≤ n) (h3 : n ≤ 3) : unf n (strt true n) = strt false (2 * n) := by
  have : n = 1 ∨ n = 2 ∨ n = 3 := by omega
  rcases this with rfl | rfl | rfl <;> decide
theorem unf_pow (h1 : 1 ≤ n) (h3 : n ≤ 3) (h : Vd true n o) : ∀ c, unf n (pow true n o c) = pow false (2 * n) (unf n o) c
  | 0 => unf_strt h1 h3
  | c + 1 => by
    show unf n (grd true n (pow true n o c) o) = grd false (2 * n) (pow false (2 * n) (unf n o) c) (unf n o)
    rw [(two_all h1 h3 (Vd.pow c) h).1, unf_pow h1 h3 h c]
theorem back_of (h1 : 1 ≤ n) (h3 : n ≤ 3) (h : Vd false (2 * n) o) (hs : sym n o = true) : Vd true n (fld n o) ∧ unf n (fld n o) = o := by
  have e := List.all_eq_true.mp look_back n (List.mem_range.mpr (by omega))
  rw [Bool.or_eq_true] at e
  rcases e with e | e
  · have : n = 0 := by simpa using e
    omega
  · have e2 := every_ok e h
    unfold back at e2
    rw [hs] at e2
    rw [Bool.or_eq_true, Bool.and_eq_true] at e2
    rcases e2 with e2 | e2
    · cases e2
    · exact ⟨vdB_ok e2.1, of_decide_eq_true e2.2⟩
end
end SL

set_option Elab.async false
set_option linter.all false
set_option maxRecDepth 100000
set_option maxHeartbeats 4000000
/-! The plain orders with told crossings, and how many there are. -/
namespace SL
def mulIn (most k : Nat) (low : Int) : List Int → Nat → List Int → List Int
  | [], _, acc => acc
  | h :: t, p, acc => mulIn most k low t (p + 1) (if k + p ≤ most then acc.set (k + p) (gd acc (k + p) + low * h) else acc)
def mulGo (most : Nat) (other : List Int) : List Int → Nat → List Int → List Int
  | [], _, acc => acc
  | low :: t, k, acc => mulGo most other t (k + 1) (mulIn most k low other 0 acc)
def mul (one other : List Int) (most : Nat) : List Int := mulGo most other one 0 (List.replicate (most + 1) 0)
def num (most : Nat) : Nat → List Int
  | 0 => 1 :: List.replicate most 0
  | n + 1 => mul (num most n) (List.replicate (n + 1) 1) most
theorem mulIn_len {most k : Nat} {low : Int} : ∀ (o : List Int) (p : Nat) (acc : List Int), (mulIn most k low o p acc).length = acc.length
  | [], _, _ => rfl
  | h :: t, p, acc => by
    unfold mulIn
    rw [mulIn_len]
    split
    · rw [List.length_set]
    · rfl
theorem mulGo_len {most : Nat} {other : List Int} : ∀ (o : List Int) (k : Nat) (acc : List Int), (mulGo most other o k acc).length = acc.length
  | [], _, _ => rfl
  | h :: t, k, acc => by
    unfold mulGo
    rw [mulGo_len, mulIn_len]
theorem mul_len (one other : List Int) (most : Nat) : (mul one other most).length = most + 1 := by
  unfold mul
  rw [mulGo_len, List.length_replicate]
theorem num_len (most : Nat) : ∀ n, (num most n).length = most + 1
  | 0 => by unfold num; rw [List.length_cons, List.length_replicate]
  | n + 1 => mul_len _ _ _
/-- the sizes and crossings that are asked -/
def asked (n c : Nat) : Prop := (n = 2 ∧ c ≤ 1) ∨ (n = 4 ∧ c ≤ 6)
instance (n c : Nat) : Decidable (asked n c) := inferInstanceAs (Decidable (_ ∨ _))
def many (n c : Nat) : Int := gd (num c n) c
def put1 (l : List (List Int)) (x : List Int) : List (List Int) := if x ∈ l then l else l ++ [x]
def lvlIn (o : List Int) : Nat → Nat → List (List Int) → List (List Int)
  | 0, _, acc => acc
  | r + 1, i, acc => lvlIn o r (i + 1) (if cr false o i = true then acc else put1 acc (stp false o i))
def lvlGo (n : Nat) : List (List Int) → List (List Int) → List (List Int)
  | [], acc => acc
  | o :: t, acc => lvlGo n t (lvlIn o (n - 1) 0 acc)
def lvls (n : Nat) : Nat → List (List Int)
  | 0 => [strt false n]
  | c + 1 => lvlGo n (lvls n c) []
theorem asked_all {p : Nat → Nat → Prop} (h2 : ∀ c, c < 2 → p 2 c) (h4 : ∀ c, c < 7 → p 4 c) {n c : Nat} (h : asked n c) : p n c := by
  rcases h with ⟨rfl, h⟩ | ⟨rfl, h⟩
  · exact h2 c (by omega)
  · exact h4 c (by omega)
theorem many_ok {n c : Nat} (h : asked n c) : 0 < many n c ∧ many n c ≤ 1000 := asked_all (p := fun n c => 0 < many n c ∧ many n c ≤ 1000) (by decide +kernel) (by decide +kernel) h
theorem lvls_few {n c : Nat} (h : asked n c) : (lvls n c).length < 64 := asked_all (p := fun n c => (lvls n c).length < 64) (by decide +kernel) (by decide +kernel) h
theorem asked_lt {n c d : Nat} (h : asked n c) (hd : d ≤ c) : asked n d := by
  unfold asked at h ⊢
  omega
def AllVd (n : Nat) (l : List (List Int)) : Prop := ∀ o ∈ l, Vd false n o
theorem put1_vd {n : Nat} {l : List (List Int)} {x : List Int} (h : AllVd n l) (hx : Vd false n x) : AllVd n (put1 l x) := by
  unfold put1
  split
  · exact h
  · intro o ho
    rcases List.mem_append.mp ho with ho | ho
    · exact h o ho
    · rw [List.mem_singleton.mp ho]
      exact hx
theorem lvlIn_vd {n : Nat} {o : List Int} (ho : Vd false n o) : ∀ (r i : Nat) (acc : List (List Int)), i + r ≤ n - 1 → AllVd n acc → AllVd n (lvlIn o r i acc)
  | 0, _, _, _, h => h
  | r + 1, i, acc, hi, h => by
    unfold lvlIn
    refine lvlIn_vd ho r (i + 1) _ (by omega) ?_
    split
    · exact h
    · exact put1_vd h (ho.stp (show i < n - 1 by omega))
theorem lvlGo_vd {n : Nat} : ∀ (l acc : List (List Int)), AllVd n l → AllVd n acc → AllVd n (lvlGo n l acc)
  | [], _, _, h => h
  | o :: t, acc, hl, h => lvlGo_vd t _ (fun x hx => hl x (List.mem_cons_of_mem _ hx)) (lvlIn_vd (hl o List.mem_cons_self) _ _ _ (by omega) h)
theorem lvls_vd (n : Nat) : ∀ c, AllVd n (lvls n c)
  | 0 => fun o ho => by
    rw [List.mem_singleton.mp ho]
    exact vd_strt false n
  | c + 1 => lvlGo_vd _ _ (lvls_vd n c) fun _ h => by cases h
theorem put1_len (l : List (List Int)) (x : List Int) : (put1 l x).length ≤ l.length + 1 := by
  unfold put1
  split
  · omega
  · rw [List.length_append, List.length_singleton]
    exact Nat.le_refl _
end SL

set_option Elab.async false
set_option linter.all false
set_option maxRecDepth 100000
set_option maxHeartbeats 4000000
namespace SL
open PySem PySem.Spec PyProof.Rows L2 Evl
/-! ### the text by places -/
def tp (i : Nat) : Stmt := PySem.Challenge.pw_seamlayers_k94_whole_kinds_in_one_anothe.main.body.getD i (.Pass ⟨0, 0, 0, 0⟩)
abbrev FnP (K : PySem.W.Frag) (x q : Str) (st : Stmt) (f : Addr) (fd : FuncData) : Prop := FunD K x q (defArgs st) (defBody st) (defScope st) [] [] f fd
section
variable {P : Program} {w : World} {K : PySem.W.Frag} {mg : Str → Option Value} {base : Heap}
/-- a def that may be called by its name -/
structure Cal (P : Program) (w : World) (K : PySem.W.Frag) (mg : Str → Option Value) (base : Heap) (k : Nat) (x : Str) (sp : Sp) : Prop where
  ex : ∃ (f : Addr) (fd : FuncData) (ps : List Str), FnOk P w K mg base CX0 k f fd ps sp ∧ mg x = some (.ref f) ∧ PySem.W.keepIn K (.ref f) = true ∧ Binds K fd ps []
/-- what the class at C has as a method -/
structure Met (P : Program) (w : World) (K : PySem.W.Frag) (mg : Str → Option Value) (base : Heap) (k : Nat) (C : Addr) (m : Str) (sp : Sp) : Prop where
  ex : ∃ (f : Addr) (fd : FuncData) (ps : List Str), Cls K C ∧ Meth K C m f ∧ FnOk P w K mg base CX0 k f fd ps sp ∧ Binds K fd ps []
/-- the class at C, called by its name -/
structure Mak (P : Program) (w : World) (K : PySem.W.Frag) (mg : Str → Option Value) (base : Heap) (k : Nat) (x : Str) (C : Addr) (sp : Sp) : Prop where
  ex : ∃ (f : Addr) (fd : FuncData) (ps : List Str), Mk K C f ∧ FnOk P w K mg base CX0 k f fd ps sp ∧ mg x = some (.ref C) ∧ Binds K fd ps []
theorem fn0 {x q : Str} {st : Stmt} {f : Addr} {fd : FuncData} {N ps : List Str} {k : Nat} {sp : Sp} (F : FnP K x q st f fd) (S : FnScope N ps (defScope st)) (len : ∀ vs H Q E, sp vs H Q E → vs.length = ps.length)
    (hbody : ∀ (cdv : Value) (A : Around) (outer : List Env) (s : Shared) (H : Hp) (vs : List V) (Q : VK) (E : XK), Room k (A.deeper (envOfC q (defScope st) s.heap.objs.size f cdv)) → sp vs H Q E →
      ∃ t, PSs (cxOf CX0 P w K mg base N q (defScope st) f cdv A outer s H E).nox (defBody st) t ∧ t { nx := fun _ H' => Q .non H', rt := Q } (start N vs) H) : FnOk P w K mg base CX0 (k + 1) f fd ps sp := by
  refine F.ok S len fun cdv A outer s H vs Q E hr h => ?_
  obtain ⟨t, a, b⟩ := hbody cdv A outer s H vs Q E hr h
  exact ⟨t, PSs.nox a, b⟩
end
section
variable {X : Cx} {k j : Nat} {C : Addr} {x m : Str} {sp : Sp} {p pos apos : Pos} {e o : Expr} {es : List Expr} {ta : TE} {t : TA}
theorem pc (c : Cal X.prog X.w X.K X.mg X.base k x sp) (hr : Room j X.A) (ha : PA X (e :: es) t) (hk : k ≤ j := by decide) (hg : Gl X x := by rfl) (hdb : (x == ("__debug__" : Str)) = false := by decide) (he : starEach (e :: es) X.env = (false, eval e X.env) :: starEach es X.env := by rfl) (hpl : (backTo pos (starEach es X.env)).any (·.1) = false := by rfl) :
    PE X (.Call (.Name x p) (e :: es) [] pos) (tCall sp [] E0 t) := by
  obtain ⟨f, fd, ps, F, hm, kp, b⟩ := c.ex
  exact pe_call F (hr.mono hk) hg hm kp b .nil pass0 ha hdb he hpl
theorem pmk (c : Mak X.prog X.w X.K X.mg X.base k x C sp) (hr : Room j X.A) (ha : PA X (e :: es) t) (hk : k + 1 ≤ j := by decide) (hg : Gl X x := by rfl) (hdb : (x == ("__debug__" : Str)) = false := by decide) (he : starEach (e :: es) X.env = (false, eval e X.env) :: starEach es X.env := by rfl) (hpl : (backTo pos (starEach es X.env)).any (·.1) = false := by rfl) :
    PE X (.Call (.Name x p) (e :: es) [] pos) (tMake C sp [] E0 t) := by
  obtain ⟨f, fd, ps, M, F, hm, b⟩ := c.ex
  exact pe_make M F (hr.mono hk) hg hm b .nil pass0 ha hdb he hpl
theorem pm0 {pl : Sem Bool} (c : Met X.prog X.w X.K X.mg X.base k C m sp) (hr : Room j X.A) (he : PE X o ta) (hk : k ≤ j := by decide)
    (ht : eval (.Call (.Attribute o m apos) [] [] pos) X.env = (do
      let ov ← eval o X.env
      standAt apos.atName
      let (f, first) ← holding [ov] (getMethod ov m pl)
      callWith pos f first (backTo pos (starEach [] X.env)) (backToKw pos (keywordEach [] X.env))) := by rfl) :
    PE X (.Call (.Attribute o m apos) [] [] pos) (tMeth C m sp [] E0 ta tNil) := by
  obtain ⟨f, fd, ps, hc, hm, F, b⟩ := c.ex
  exact pe_meth0 (pl := pl) he hc hm F (hr.mono hk) b .nil pass0 ht
end

/-! ### kinds -/
inductive Kn where
  | pl | mi | ri
  deriving DecidableEq
def Kn.s : Kn → Str
  | .pl => "plain"
  | .mi => "mirror"
  | .ri => "ring"
def Kn.m : Kn → Bool
  | .mi => true
  | _ => false
theorem Kn.eqs (a b : Kn) : decide (V.str a.s = V.str b.s) = decide (a = b) := by
  cases a <;> cases b <;> decide +kernel
def kf (s : Str) (n : Int) : List (Str × V) := putF "_size" (.int n) (putF "_name" (.str s) [])
theorem kf_ne : ¬ (("_name" : Str) = "_size") := by decide +kernel
theorem kf_name (s : Str) (n : Int) : (kf s n).lookup ("_name" : Str) = some (.str s) := by
  unfold kf
  rw [lookup_putF, if_neg kf_ne, lookup_putF, if_pos rfl]
theorem kf_size (s : Str) (n : Int) : (kf s n).lookup ("_size" : Str) = some (.int n) := by
  unfold kf
  rw [lookup_putF, if_pos rfl]
theorem kf_no (s : Str) (n : Int) {m : Str} (h1 : ¬ m = "_size") (h2 : ¬ m = "_name") : (kf s n).lookup m = none := by
  unfold kf
  rw [lookup_putF, if_neg h1, lookup_putF, if_neg h2]
  all_goals rfl
def KindAt (C : Addr) (H : Hp) (p : Addr) (k : Kn) (n : Nat) : Prop := ∃ dx, H p = some (.ins C dx (kf k.s n))
theorem KindAt.mono {C : Addr} {H H' : Hp} {p : Addr} {k : Kn} {n : Nat} (h : KindAt C H p k n) (e : Ex H H') : KindAt C H' p k n := let ⟨dx, a⟩ := h; ⟨dx, e _ _ a⟩

/-! ### more of what evaluates -/
section
variable {K : PySem.W.Frag} {σ : L2.St} {H H' : Hp} {ta tb te tx : TE} {t u : TT} {x y z v : V} {r : R2} {C : Addr}
theorem ev_fld {f : Str} {p : Addr} {k : Kn} {n : Nat} (ha : Ev ta σ H (.ref p)) (hk : KindAt C H p k n) (c : Cls K C) (hn : NoAttr K C f) (hl : (kf k.s n).lookup f = some v) : Ev (tFld K ta f) σ H v := fun H1 e Q q => ha H1 e _ fun H2 e2 =>
  let ⟨dx, hp⟩ := hk
  ⟨p, C, dx, _, v, rfl, e2 _ _ (e _ _ hp), c, hn, hl, q H2 e2⟩
theorem ev_m0 {m : Str} {sp : Sp} {p : Addr} {k : Kn} {n : Nat} (ha : Ev ta σ H (.ref p)) (hk : KindAt C H p k n) (hs : SpV sp [.ref p] H z) (h1 : ¬ m = "_size" := by decide +kernel) (h2 : ¬ m = "_name" := by decide +kernel) :
    Ev (tMeth C m sp [] E0 ta tNil) σ H z := fun H1 e Q q => ha H1 e _ fun H2 e2 =>
  let ⟨dx, hp⟩ := hk
  ⟨p, dx, _, rfl, e2 _ _ (e _ _ hp), kf_no _ _ h1 h2, hs H2 (e.trans e2) Q (fun H3 e3 => q H3 (e2.trans e3)) _⟩
theorem el_m0 {m : Str} {sp : Sp} {p : Addr} {k : Kn} {n : Nat} {xs : List V} (ha : Ev ta σ H (.ref p)) (hk : KindAt C H p k n) (hs : SpL sp [.ref p] H xs) (h1 : ¬ m = "_size" := by decide +kernel) (h2 : ¬ m = "_name" := by decide +kernel) :
    EvL (tMeth C m sp [] E0 ta tNil) σ H xs := fun H1 e Q q => ha H1 e _ fun H2 e2 =>
  let ⟨dx, hp⟩ := hk
  ⟨p, dx, _, rfl, e2 _ _ (e _ _ hp), kf_no _ _ h1 h2, hs H2 (e.trans e2) Q (fun l H3 hl e3 h3 => q l H3 (fresh_back e2 hl) (e2.trans e3) h3) _⟩
/-- a promise that hands back a value, a new list -/
def PV (pre : List V → Hp → V → Prop) : Sp := fun vs H Q _ => ∃ v, pre vs H v ∧ RetV v H Q
def PL (pre : List V → Hp → List V → Prop) : Sp := fun vs H Q _ => ∃ xs, pre vs H xs ∧ RetL xs H Q
theorem PV.sp {pre : List V → Hp → V → Prop} {vs : List V} (h : ∀ H1, Ex H H1 → pre vs H1 v) : SpV (PV pre) vs H v := fun H1 e Q q _ => ⟨v, h H1 e, q⟩
theorem PL.sp {pre : List V → Hp → List V → Prop} {vs xs : List V} (h : ∀ H1, Ex H H1 → pre vs H1 xs) : SpL (PL pre) vs H xs := fun H1 e Q q _ => ⟨xs, h H1 e, q⟩
/-- a list or a tuple that is read -/
def Sq (K : PySem.W.Frag) (H : Hp) (a : Addr) (xs : List V) : Prop := SqL K H a xs ∨ SqT K H a xs
theorem Sq.mono {a : Addr} {xs : List V} (h : Sq K H a xs) (e : Ex H H') : Sq K H' a xs := h.elim (fun q => .inl (ex_l e q)) fun q => .inr (ex_t e q)
theorem rv_ixq {p : Addr} {xs : List V} {i : Int} (h : Sq K H p xs) (ha : atI xs i = some v) : RV (rIx K) (.ref p) (.int i) H v := fun H1 e _ q => by
  rcases h with h | h
  · exact .inl ⟨p, xs, i, v, rfl, rfl, ex_l e h, ha, q H1 (Ex.refl H1)⟩
  · exact .inr (.inl ⟨p, xs, i, v, rfl, rfl, ex_t e h, ha, q H1 (Ex.refl H1)⟩)
theorem at_gd {o : List Int} {i : Int} (h0 : 0 ≤ i) (h1 : i < o.length) : atI (o.map V.int) i = some (.int (gd o i.toNat)) := by
  obtain ⟨j, rfl⟩ := Int.eq_ofNat_of_zero_le h0
  refine atI_nat ?_
  rw [List.getElem?_map, gd_lt (by omega)]
  rfl
theorem rv_ix {p : Addr} {o : List Int} {i : Int} (h : Sq K H p (o.map V.int)) (h0 : 0 ≤ i) (h1 : i < o.length) : RV (rIx K) (.ref p) (.int i) H (.int (gd o i.toNat)) := rv_ixq h (at_gd h0 h1)
theorem ev_lenq {p : Addr} {xs : List V} (ha : Ev ta σ H (.ref p)) (h : Sq K H p xs) : Ev (tCB (rLenS K) (tCons ta tNil)) σ H (.int (xs.length : Int)) := fun H1 e Q q => ha H1 e _ fun H2 e2 =>
  ⟨p, xs, rfl, h.elim (fun z => .inl (ex_l (e.trans e2) z)) (fun z => .inr (ex_t (e.trans e2) z)), q H2 e2⟩
theorem el_listq {p : Addr} {xs : List V} (ha : Ev ta σ H (.ref p)) (h : Sq K H p xs) : EvL (tCB (rListS K) (tCons ta tNil)) σ H xs := fun H1 e Q q => ha H1 e _ fun H2 e2 =>
  ⟨p, xs, rfl, h.elim (fun z => .inl (ex_l (e.trans e2) z)) (fun z => .inr (ex_t (e.trans e2) z)), fun l hl => q l _ (fresh_back e2 hl) (e2.trans (Ex.new hl)) upd_same⟩
/-- int(..) of an int, of a bool -/
def rInt1 : List V → Hp → VK → Prop := fun xs H Q => (∃ i, xs = [.int i] ∧ Q (.int i) H) ∨ ∃ k, xs = [.bl k] ∧ Q (.int (if k then 1 else 0)) H
theorem ev_intB {b : Bool} (ha : Ev ta σ H (.bl b)) : Ev (tCB rInt1 (tCons ta tNil)) σ H (.int (b2z b)) := fun H1 e Q q => ha H1 e _ fun H2 e2 => .inr ⟨b, rfl, q H2 e2⟩
theorem ev_intI {i : Int} (ha : Ev ta σ H (.int i)) : Ev (tCB rInt1 (tCons ta tNil)) σ H (.int i) := fun H1 e Q q => ha H1 e _ fun H2 e2 => .inl ⟨i, rfl, q H2 e2⟩
def rAbs : List V → Hp → VK → Prop := fun xs H Q => ∃ i, xs = [.int i] ∧ Q (.int (if i < 0 then -i else i)) H
theorem ev_abs {i : Int} (ha : Ev ta σ H (.int i)) : Ev (tCB rAbs (tCons ta tNil)) σ H (.int (ab i)) := fun H1 e Q q => ha H1 e _ fun H2 e2 => ⟨i, rfl, q H2 e2⟩
end

section
variable {K : PySem.W.Frag} {σ : L2.St} {H H' : Hp} {ta tb te tx : TE} {t u : TT} {x y z v : V} {r : R2} {C : Addr}
/-- isinstance of one class -/
theorem ev_isi {c : V} {ty uc : Value} {b : Bool} (ha : Ev ta σ H x) (hb : Ev tb σ H c) (k : ClsV c uc) (h : ∀ H1, Ex H H1 → TyX K H1 x ty) (e : PySem.W.kitOne K ty uc = some b) : Ev (tCB (rIsi K) (tCons ta (tCons tb tNil))) σ H (.bl b) := fun H1 e1 Q q =>
  ha H1 e1 _ fun H2 e2 => hb H2 (e1.trans e2) _ fun H3 e3 => ⟨x, c, ty, uc, b, rfl, k, h H3 ((e1.trans e2).trans e3), e, q H3 (e2.trans e3)⟩
/-- is None -/
def rIsN : R2 := fun u c H Q => c = V.non ∧ Q (.bl (decide (u = V.non))) H
def rNotN : R2 := fun u c H Q => c = V.non ∧ Q (.bl (!decide (u = V.non))) H
theorem rv_isN : RV rIsN x .non H (.bl (decide (x = .non))) := fun H1 _ _ q => ⟨rfl, q H1 (Ex.refl H1)⟩
theorem rv_notN : RV rNotN x .non H (.bl (!decide (x = .non))) := fun H1 _ _ q => ⟨rfl, q H1 (Ex.refl H1)⟩
/-- == and != of lists of ints -/
def pyL (o : List Int) : PyData := .list (o.map PyData.int)
def Ls (H : Hp) (a : Addr) (o : List Int) : Prop := H a = some (.lst (o.map V.int))
theorem dpAll_ints (K : PySem.W.Frag) (H : Hp) : ∀ o : List Int, DpAll K H (o.map V.int) (o.map PyData.int)
  | [] => .nil
  | i :: o => .cons (.int i) (dpAll_ints K H o)
theorem dp_ls {a : Addr} {o : List Int} (h : Ls H a o) : Dp K H (.ref a) (pyL o) := .lst (SqL.of h) (dpAll_ints K H o)
theorem eqvAll_ints : ∀ o p : List Int, PyData.eqvAll (o.map PyData.int) (p.map PyData.int) = decide (o = p)
  | [], [] => rfl
  | [], _ :: _ => rfl
  | _ :: _, [] => rfl
  | i :: o, j :: p => by
    show ((i == j) && PyData.eqvAll (o.map PyData.int) (p.map PyData.int)) = decide (i :: o = j :: p)
    rw [eqvAll_ints o p]
    by_cases h1 : i = j
    · by_cases h2 : o = p
      · simp [h1, h2]
      · simp [h1, h2]
    · simp [h1]
theorem eqv_pyL (o p : List Int) : PyData.eqv (pyL o) (pyL p) = decide (o = p) := eqvAll_ints o p
end
section
variable {X : Cx}
/-- a number of the module -/
theorem pgi {x : Str} {i : Int} {pos : Pos} (h : ∃ t, X.mg x = some (.int i t)) (hg : Gl X x := by rfl) (hd : (x == ("__debug__" : Str)) = false := by decide) : PE X (.Name x pos) (tC (.int i)) := by
  obtain ⟨t, h⟩ := h
  exact pe_glob hg h ⟨t, rfl⟩ hd
end
/-- what the walk asks of what the top has made -/
structure Tx (K : PySem.W.Frag) (w : World) (mg : Str → Option Value) (C D : Addr) : Prop where
  cl : Cls K C
  nN : NoAttr K C "_name"
  nS : NoAttr K C "_size"
  (ha : PySem.W.findIn K (.ref C) "__class__" = some (some (.builtin "object.__class__")))
  (hn : PySem.W.specialIn K (.builtin "object.__class__") "__get__" = some (some (.builtin "getset_descriptor.__get__")))
  (htk : PySem.W.takesIn K (.builtin "object.__class__") = some true)
  (hm : PySem.W.mroIn K C (.type "object") = some true)
  (me : PySem.W.kitOne K (.ref C) (.ref C) = some true)
  Kind : mg "Kind" = some (.ref C)
  BOUNDS : mg "BOUNDS" = some (.ref D)
  dd : ∃ es n, KDict K w D es n
  bnd : ∀ k : Kn, ∃ (t : Addr) (lo hi : Int), KDct K w D k.s (.ref t) ∧ (∀ H, SqT K H t [.int lo, .int hi]) ∧ (∃ u, PySem.W.nsIn K D k.s = some (some u)) ∧ lo = (if k = .ri then 2 else 1) ∧ hi = (if k = .pl then 7 else 5)
  MOST_CROSSINGS : ∃ t, mg "MOST_CROSSINGS" = some (.int 60 t)
  MOST_SIZE : ∃ t, mg "MOST_SIZE" = some (.int 3 t)
  MOST_COUNT : ∃ t, mg "MOST_COUNT" = some (.int 1000 t)
  MOST_ASKED : ∃ t, mg "MOST_ASKED" = some (.int 200 t)
  MOST_LISTED : ∃ t, mg "MOST_LISTED" = some (.int 1000 t)
  b_int : mg "int" = none
  b_bool : mg "bool" = none
  b_str : mg "str" = none
  b_list : mg "list" = none
  b_tuple : mg "tuple" = none
  b_abs : mg "abs" = none
  b_len : mg "len" = none
  b_sum : mg "sum" = none
  b_max : mg "max" = none
  b_sorted : mg "sorted" = none
  b_isinstance : mg "isinstance" = none
  b_range : mg "range" = none
  b_enumerate : mg "enumerate" = none
  b_reversed : mg "reversed" = none
theorem Tx.tyK {K : PySem.W.Frag} {w : World} {mg : Str → Option Value} {C D : Addr} (T : Tx K w mg C D) {H : Hp} {p : Addr} {k : Kn} {n : Nat} (h : KindAt C H p k n) : TyX K H (.ref p) (.ref C) :=
  let ⟨_, e⟩ := h
  .base (.ins e T.cl T.ha T.hn T.htk T.hm)
end SL

set_option Elab.async false
set_option linter.all false
set_option maxRecDepth 100000
set_option maxHeartbeats 4000000
namespace SL
open PySem PySem.Spec PyProof.Rows L2 Evl
/-! ### the defs of the kinds: the text -/
abbrev s_is_whole : Stmt := tp 9
abbrev N_is_whole : List Str := ["value"]
theorem sc_is_whole : FnScope N_is_whole ["value"] (defScope s_is_whole) := ⟨rfl, rfl, rfl, by decide +kernel, rfl, by decide +kernel, by decide +kernel⟩
abbrev s_is_between : Stmt := tp 10
abbrev N_is_between : List Str := ["value", "low", "high"]
theorem sc_is_between : FnScope N_is_between ["value", "low", "high"] (defScope s_is_between) := ⟨rfl, rfl, rfl, by decide +kernel, rfl, by decide +kernel, by decide +kernel⟩
abbrev s_check_number : Stmt := tp 11
abbrev N_check_number : List Str := ["number", "low", "high"]
theorem sc_check_number : FnScope N_check_number ["number", "low", "high"] (defScope s_check_number) := ⟨rfl, rfl, rfl, by decide +kernel, rfl, by decide +kernel, by decide +kernel⟩
abbrev s_K_init : Stmt := inClass (tp 12) 0
abbrev N_K_init : List Str := ["self", "name", "size"]
theorem sc_K_init : FnScope N_K_init ["self", "name", "size"] (defScope s_K_init) := ⟨rfl, rfl, rfl, by decide +kernel, rfl, by decide +kernel, by decide +kernel⟩
abbrev s_K_name : Stmt := inClass (tp 12) 1
abbrev N_K_name : List Str := ["self"]
theorem sc_K_name : FnScope N_K_name ["self"] (defScope s_K_name) := ⟨rfl, rfl, rfl, by decide +kernel, rfl, by decide +kernel, by decide +kernel⟩
abbrev s_K_size : Stmt := inClass (tp 12) 2
abbrev N_K_size : List Str := ["self"]
theorem sc_K_size : FnScope N_K_size ["self"] (defScope s_K_size) := ⟨rfl, rfl, rfl, by decide +kernel, rfl, by decide +kernel, by decide +kernel⟩
abbrev s_K_steps : Stmt := inClass (tp 12) 3
abbrev N_K_steps : List Str := ["self"]
theorem sc_K_steps : FnScope N_K_steps ["self"] (defScope s_K_steps) := ⟨rfl, rfl, rfl, by decide +kernel, rfl, by decide +kernel, by decide +kernel⟩
abbrev s_K_start : Stmt := inClass (tp 12) 4
abbrev N_K_start : List Str := ["self", "first"]
theorem sc_K_start : FnScope N_K_start ["self"] (defScope s_K_start) := ⟨rfl, rfl, rfl, by decide +kernel, rfl, by decide +kernel, by decide +kernel⟩
abbrev s_check_kind : Stmt := tp 13
abbrev N_check_kind : List Str := ["kind"]
theorem sc_check_kind : FnScope N_check_kind ["kind"] (defScope s_check_kind) := ⟨rfl, rfl, rfl, by decide +kernel, rfl, by decide +kernel, by decide +kernel⟩
abbrev s_is_crossed : Stmt := tp 14
abbrev N_is_crossed : List Str := ["kind", "order", "step"]
theorem sc_is_crossed : FnScope N_is_crossed ["kind", "order", "step"] (defScope s_is_crossed) := ⟨rfl, rfl, rfl, by decide +kernel, rfl, by decide +kernel, by decide +kernel⟩
abbrev s_by_step : Stmt := tp 15
abbrev N_by_step : List Str := ["kind", "order", "step", "found", "at"]
theorem sc_by_step : FnScope N_by_step ["kind", "order", "step"] (defScope s_by_step) := ⟨rfl, rfl, rfl, by decide +kernel, rfl, by decide +kernel, by decide +kernel⟩
/-! ### promises -/
def sp_is_whole (K : PySem.W.Frag) (C : Addr) : Sp := PV fun vs H v => ∃ i : Int, vs = [.int i] ∧ v = .bl true
def sp_is_between (K : PySem.W.Frag) (C : Addr) : Sp := PV fun vs H v => ∃ (i lo : Int) (h : V), vs = [.int i, .int lo, h] ∧ lo ≤ i ∧ (h = .non ∨ ∃ hi, h = .int hi ∧ i ≤ hi) ∧ v = .bl true
def sp_check_number (K : PySem.W.Frag) (C : Addr) : Sp := PV fun vs H v => ∃ (i lo : Int) (h : V), vs = [.int i, .int lo, h] ∧ lo ≤ i ∧ (h = .non ∨ ∃ hi, h = .int hi ∧ i ≤ hi) ∧ v = .non
def kinOk (k : Kn) (n : Nat) : Prop := (if k = .ri then 2 else 1) ≤ n ∧ n ≤ (if k = .pl then 7 else 5)
def sp_K_init (K : PySem.W.Frag) (C : Addr) : Sp := fun vs H Q _ => ∃ (p dx : Addr) (k : Kn) (n : Nat), vs = [.ref p, .str k.s, .int n] ∧ H p = some (.ins C dx []) ∧ kinOk k n ∧
  ∀ H', KindAt C H' p k n → (∀ b o, H b = some o → b ≠ p → H' b = some o) → Q .non H'
def sp_K_name (K : PySem.W.Frag) (C : Addr) : Sp := PV fun vs H v => ∃ (p : Addr) (k : Kn) (n : Nat), vs = [.ref p] ∧ KindAt C H p k n ∧ v = .str k.s
def sp_K_size (K : PySem.W.Frag) (C : Addr) : Sp := PV fun vs H v => ∃ (p : Addr) (k : Kn) (n : Nat), vs = [.ref p] ∧ KindAt C H p k n ∧ v = .int n
def sp_K_steps (K : PySem.W.Frag) (C : Addr) : Sp := PV fun vs H v => ∃ (p : Addr) (k : Kn) (n : Nat), vs = [.ref p] ∧ KindAt C H p k n ∧ v = .int ((n : Int) - b2z (decide (k = .pl)))
def sp_K_start (K : PySem.W.Frag) (C : Addr) : Sp := PL fun vs H xs => ∃ (p : Addr) (k : Kn) (n : Nat), vs = [.ref p] ∧ KindAt C H p k n ∧ n ≤ 7 ∧ xs = (strt k.m n).map V.int
def sp_check_kind (K : PySem.W.Frag) (C : Addr) : Sp := PV fun vs H v => ∃ (p : Addr) (k : Kn) (n : Nat), vs = [.ref p] ∧ KindAt C H p k n ∧ v = .non
def stN (k : Kn) (n : Nat) : Nat := if k = .pl then n - 1 else n
/-- whether an order is crossed at a step; a plain order among the ring ones isn't at the last one -/
def crk (k : Kn) (n : Nat) (o : List Int) (j : Nat) : Bool := if k = .ri ∧ j + 1 = n then false else cr k.m o j
def sp_is_crossed (K : PySem.W.Frag) (C : Addr) : Sp := PV fun vs H v => ∃ (p a : Addr) (k : Kn) (n j : Nat) (o : List Int), vs = [.ref p, .ref a, .int j] ∧ KindAt C H p k n ∧ Sq K H a (o.map V.int) ∧ o.length = n ∧ j < stN k n ∧ (k = .ri → Vd false n o) ∧ v = .bl (crk k n o j)
def sp_by_step (K : PySem.W.Frag) (C : Addr) : Sp := PL fun vs H xs => ∃ (p a : Addr) (k : Kn) (n j : Nat) (o : List Int), vs = [.ref p, .ref a, .int j] ∧ KindAt C H p k n ∧ Sq K H a (o.map V.int) ∧ o.length = n ∧ n ≤ 7 ∧ j < nst k.m n ∧ xs = (stp k.m o j).map V.int
section
variable {P : Program} {w : World} {K : PySem.W.Frag} {mg : Str → Option Value} {base : Heap} {C D : Addr}
theorem ok_is_whole {f : Addr} {fd : FuncData} (F : FnP K "is_whole" "is_whole" s_is_whole f fd) (T : Tx K w mg C D)  : FnOk P w K mg base CX0 1 f fd ["value"] (sp_is_whole K C) := by
  refine fn0 F sc_is_whole (fun vs H Q E h => ?_) (fun cdv A outer s H vs Q E hr h => ?_)
  · obtain ⟨v, ⟨i, rfl, rfl⟩, k⟩ := h
    rfl
  · obtain ⟨v, ⟨i, rfl, rfl⟩, k⟩ := h
    refine ⟨_, (pss_one (ps_ret (pe_and (pe_callB call_isi (by rfl) T.b_isinstance (by decide +kernel) (pa_cons (pv 0) (pa_cons (pe_bltn (v := .ty "int") (by rfl) T.b_int (by decide +kernel) rfl) pa_nil))) (pe_one (pe_not (pe_callB call_isi (by rfl) T.b_isinstance (by decide +kernel) (pa_cons (pv 0) (pa_cons (pe_bltn (v := .ty "bool") (by rfl) T.b_bool (by decide +kernel) rfl) pa_nil)))))))), ?_⟩
    exact s_ret (ev_andV (a := true) (b := true) (ev_isi (ev_var rfl) ev_c (.ty _) (fun _ _ => .base (.int i)) (kit_ty (b := "int") (by decide +kernel))) fun _ =>
      ev_notV (ev_isi (b := false) (ev_var rfl) ev_c (.ty _) (fun _ _ => .base (.int i)) (kit_ty (b := "bool") (by decide +kernel)))) k
theorem ok_is_between {f : Addr} {fd : FuncData} (F : FnP K "is_between" "is_between" s_is_between f fd) (T : Tx K w mg C D) (c_is_whole : Cal P w K mg base 1 "is_whole" (sp_is_whole K C)) : FnOk P w K mg base CX0 2 f fd ["value", "low", "high"] (sp_is_between K C) := by
  refine fn0 F sc_is_between (fun vs H Q E h => ?_) (fun cdv A outer s H vs Q E hr h => ?_)
  · obtain ⟨v, ⟨i, lo, hi, rfl, _⟩, k⟩ := h
    rfl
  · obtain ⟨v, ⟨i, lo, hi, rfl, hlo, hhi, rfl⟩, k⟩ := h
    refine ⟨_, (pss_one (ps_ret (pe_and (pc c_is_whole hr (pa_cons (pv 0) pa_nil)) (pe_and (pe_cmpR op_ge (pv 0) (pv 1) (nomark _)) (pe_one (pe_or (pe_cmpR op_isN (pv 2) pe_non (nomark _)) (pe_one (pe_cmpR op_le (pv 0) (pv 2) (nomark _))))))))), ?_⟩
    refine s_ret (v := .bl true) (ev_is (ev_andV (a := true) (b := true) (ev_call (ea_cons (ev_var rfl) ea_nil) (PV.sp fun H1 _ => ⟨i, rfl, rfl⟩)) fun _ => ev_is (ev_andV (a := true) (b := true) (ev_is (ev_op (ev_var rfl) (ev_var rfl) rv_I0) (by rw [decide_eq_true hlo])) fun _ => ?_) rfl) rfl) k
    rcases hhi with rfl | ⟨h, rfl, hh⟩
    · exact ev_is (ev_orV (a := true) (b := true) (ev_op (ev_var rfl) ev_c rv_isN) fun z => by cases z) rfl
    · exact ev_is (ev_orV (a := false) (b := true) (ev_op (ev_var rfl) ev_c rv_isN) fun _ => ev_is (ev_op (ev_var rfl) (ev_var rfl) rv_I0) (by rw [decide_eq_true hh])) rfl
theorem ok_check_number {f : Addr} {fd : FuncData} (F : FnP K "check_number" "check_number" s_check_number f fd) (T : Tx K w mg C D) (c_is_between : Cal P w K mg base 2 "is_between" (sp_is_between K C)) : FnOk P w K mg base CX0 3 f fd ["number", "low", "high"] (sp_check_number K C) := by
  refine fn0 F sc_check_number (fun vs H Q E h => ?_) (fun cdv A outer s H vs Q E hr h => ?_)
  · obtain ⟨v, ⟨i, lo, hi, rfl, _⟩, k⟩ := h
    rfl
  · obtain ⟨v, ⟨i, lo, hi, rfl, hlo, hhi, rfl⟩, k⟩ := h
    refine ⟨_, (pss_one (ps_if (pt_not (pt_val (pc c_is_between hr (pa_cons (pv 0) (pa_cons (pv 1) (pa_cons (pv 2) pa_nil)))))) pss_never pss_nil)), ?_⟩
    exact s_when (b := false) (et_not (a := true) (et_B (ev_call (ea_cons (ev_var rfl) (ea_cons (ev_var rfl) (ea_cons (ev_var rfl) ea_nil))) (PV.sp fun H1 _ => ⟨i, lo, hi, rfl, hlo, hhi, rfl⟩)))) (fun z => by cases z) fun _ H1 e => k H1 e
theorem ok_K_name {f : Addr} {fd : FuncData} (F : FnP K "name" "Kind.name" s_K_name f fd) (T : Tx K w mg C D)  : FnOk P w K mg base CX0 1 f fd ["self"] (sp_K_name K C) := by
  refine fn0 F sc_K_name (fun vs H Q E h => ?_) (fun cdv A outer s H vs Q E hr h => ?_)
  · obtain ⟨v, ⟨p, kn, n, rfl, _⟩, k⟩ := h
    rfl
  · obtain ⟨v, ⟨p, kn, n, rfl, hp, rfl⟩, k⟩ := h
    exact ⟨_, (pss_one (ps_ret (pe_fld (pv 0) rfl))), s_ret (ev_fld (ev_var rfl) hp T.cl T.nN (kf_name _ _)) k⟩
theorem ok_K_size {f : Addr} {fd : FuncData} (F : FnP K "size" "Kind.size" s_K_size f fd) (T : Tx K w mg C D)  : FnOk P w K mg base CX0 1 f fd ["self"] (sp_K_size K C) := by
  refine fn0 F sc_K_size (fun vs H Q E h => ?_) (fun cdv A outer s H vs Q E hr h => ?_)
  · obtain ⟨v, ⟨p, kn, n, rfl, _⟩, k⟩ := h
    rfl
  · obtain ⟨v, ⟨p, kn, n, rfl, hp, rfl⟩, k⟩ := h
    exact ⟨_, (pss_one (ps_ret (pe_fld (pv 0) rfl))), s_ret (ev_fld (ev_var rfl) hp T.cl T.nS (kf_size _ _)) k⟩
theorem ok_K_steps {f : Addr} {fd : FuncData} (F : FnP K "steps" "Kind.steps" s_K_steps f fd) (T : Tx K w mg C D)  : FnOk P w K mg base CX0 1 f fd ["self"] (sp_K_steps K C) := by
  refine fn0 F sc_K_steps (fun vs H Q E h => ?_) (fun cdv A outer s H vs Q E hr h => ?_)
  · obtain ⟨v, ⟨p, kn, n, rfl, _⟩, k⟩ := h
    rfl
  · obtain ⟨v, ⟨p, kn, n, rfl, hp, rfl⟩, k⟩ := h
    refine ⟨_, (pss_one (ps_ret (pe_op op_sub (pe_fld (pv 0) rfl) (pe_callTy call_int1 (by rfl) T.b_int (by decide +kernel) (pa_cons (pe_cmpR op_eq (pe_fld (pv 0) rfl) pe_str (nomark _)) pa_nil))))), ?_⟩
    exact s_ret (ev_op (ev_fld (ev_var rfl) hp T.cl T.nS (kf_size _ _)) (ev_intB (ev_is (ev_op (ev_fld (ev_var rfl) hp T.cl T.nN (kf_name _ _)) ev_c (rv_eq rfl)) (congrArg V.bl (Kn.eqs kn .pl)))) rv_I0) k
theorem ok_check_kind {f : Addr} {fd : FuncData} (F : FnP K "check_kind" "check_kind" s_check_kind f fd) (T : Tx K w mg C D)  : FnOk P w K mg base CX0 1 f fd ["kind"] (sp_check_kind K C) := by
  refine fn0 F sc_check_kind (fun vs H Q E h => ?_) (fun cdv A outer s H vs Q E hr h => ?_)
  · obtain ⟨v, ⟨p, kn, n, rfl, _⟩, k⟩ := h
    rfl
  · obtain ⟨v, ⟨p, kn, n, rfl, hp, rfl⟩, k⟩ := h
    refine ⟨_, (pss_one (ps_if (pt_not (pt_val (pe_callB call_isi (by rfl) T.b_isinstance (by decide +kernel) (pa_cons (pv 0) (pa_cons (pe_glob (v := .ref C) (by rfl) T.Kind rfl) pa_nil))))) pss_never pss_nil)), ?_⟩
    exact s_when (b := false) (et_not (a := true) (et_B (ev_isi (ev_var rfl) ev_c (.own _) (fun H1 e => T.tyK (hp.mono e)) T.me))) (fun z => by cases z) fun _ H1 e => k H1 e
theorem ok_K_init {f : Addr} {fd : FuncData} (F : FnP K "__init__" "Kind.__init__" s_K_init f fd) (T : Tx K w mg C D) (c_check_number : Cal P w K mg base 3 "check_number" (sp_check_number K C)) : FnOk P w K mg base CX0 4 f fd ["self", "name", "size"] (sp_K_init K C) := by
  refine fn0 F sc_K_init (fun vs H Q E h => ?_) (fun cdv A outer s H vs Q E hr h => ?_)
  · obtain ⟨p, dx, kn, n, rfl, _⟩ := h
    rfl
  · obtain ⟨p, dx, kn, n, rfl, hp, ⟨hn1, hn2⟩, k⟩ := h
    obtain ⟨es, n0, DD⟩ := T.dd
    obtain ⟨t, lo, hi, kd, hT, ⟨u, hu⟩, elo, ehi⟩ := T.bnd kn
    have hlo : lo ≤ (n : Int) := by cases kn <;> simp at hn1 elo <;> omega
    have hhi : (n : Int) ≤ hi := by cases kn <;> simp at hn2 ehi <;> omega
    refine ⟨_, (pss_cons (ps_if (PW.pt (pw_or (pt_not (pt_val (pe_callB call_isi (by rfl) T.b_isinstance (by decide +kernel) (pa_cons (pv 1) (pa_cons (pe_bltn (v := .ty "str") (by rfl) T.b_str (by decide +kernel) rfl) pa_nil))))) (pw_or1 (pt_cmpR (op_notIn_kd DD) (pv 1) (pe_glob (v := .ref D) (by rfl) T.BOUNDS rfl) (by rfl))))) pss_never pss_nil)
      (pss_cons (ps_expr (pc c_check_number hr (pa_cons (pv 2) (pa_cons (pe_ix ix_seq (pe_ix ix_kdict (pe_glob (v := .ref D) (by rfl) T.BOUNDS rfl) (pv 1) (fun _ _ => rfl)) pe_int (fun _ _ => rfl)) (pa_cons (pe_ix ix_seq (pe_ix ix_kdict (pe_glob (v := .ref D) (by rfl) T.BOUNDS rfl) (pv 1) (fun _ _ => rfl)) pe_int (fun _ _ => rfl)) pa_nil)))))
      (pss_cons (ps_fld (pv 0) (pv 1) rfl)
      (pss_one (ps_fld (pv 0) (pv 2) rfl))))), ?_⟩
    refine q_when (b := false) (et_or (a := false) (b := false) (et_not (a := true) (et_B (ev_isi (ev_var rfl) ev_c (.ty _) (fun _ _ => .base (.str _)) (kit_ty (b := "str") (by decide +kernel))))) fun _ =>
      et_test (ev_op (z := .bl false) (ev_var rfl) ev_c (rv_val fun H1 e Q q => ⟨_, some u, rfl, rfl, hu, q⟩))) (fun z => by cases z) fun _ H1 e1 => ?_
    refine q_drop (v := .non) (ev_call (vs := [.int n, .int lo, .int hi]) (ea_cons (ev_var rfl) (ea_cons (ev_op (x := .ref t) (ev_op (ev_c) (ev_var rfl) (rv_val fun H2 e Q q => ⟨D, kn.s, .ref t, rfl, rfl, kd, q⟩)) ev_c (rv_ixq (.inr (hT _)) rfl))
      (ea_cons (ev_op (x := .ref t) (ev_op ev_c (ev_var rfl) (rv_val fun H2 e Q q => ⟨D, kn.s, .ref t, rfl, rfl, kd, q⟩)) ev_c (rv_ixq (.inr (hT _)) rfl)) ea_nil)))
      (PV.sp fun H2 _ => ⟨n, lo, .int hi, rfl, hlo, .inr ⟨hi, rfl, hhi⟩, rfl⟩)) fun H2 e2 => ?_
    have e12 := e1.trans e2
    refine ⟨_, rfl, _, rfl, p, C, dx, [], rfl, e12 _ _ hp, T.cl, T.nN, (by show 0 < 1000; decide), _, rfl, _, rfl, p, C, dx, _, rfl, upd_same, T.cl, T.nS, (by show 1 < 1000; decide), ?_⟩
    refine k _ ⟨dx, upd_same⟩ fun b o hb hne => ?_
    rw [upd_ne hne, upd_ne hne]
    exact e12 _ _ hb
theorem rgV_rg (a n : Nat) : rgV (a : Int) ((a : Int) + n) = (rg a n).map V.int := by
  unfold rgV rg
  rw [List.map_map, show ((a : Int) + n - a).toNat = n by omega]
  refine List.map_congr_left fun i _ => ?_
  show V.int ((a : Int) + i) = V.int ((a + i : Nat) : Int)
  rw [Int.natCast_add]
theorem el_rg2 {σ : L2.St} {H : Hp} {ta tb : TE} {i j : Int} (ha : Ev ta σ H (.int i)) (hb : Ev tb σ H (.int j)) (h : RgOk i j) : EvL (tLstRg (tRg2 ta tb)) σ H (rgV i j) := fun H1 e Q q => ha H1 e _ fun H2 e2 => hb H2 (e.trans e2) _ fun H3 e3 =>
  ⟨i, j, rfl, rfl, h, fun l hl => q l _ (fresh_back (e2.trans e3) hl) ((e2.trans e3).trans (Ex.new hl)) upd_same⟩
theorem el_rg1 {σ : L2.St} {H : Hp} {ta : TE} {j : Int} (ha : Ev ta σ H (.int j)) (h : RgOk 0 j) : EvL (tLstRg (tRg1 ta)) σ H (rgV 0 j) := fun H1 e Q q => ha H1 e _ fun H2 e2 =>
  ⟨j, rfl, h, fun l hl => q l _ (fresh_back e2 hl) (e2.trans (Ex.new hl)) upd_same⟩
theorem ok_K_start {f : Addr} {fd : FuncData} (F : FnP K "start" "Kind.start" s_K_start f fd) (T : Tx K w mg C D)  : FnOk P w K mg base CX0 1 f fd ["self"] (sp_K_start K C) := by
  refine fn0 F sc_K_start (fun vs H Q E h => ?_) (fun cdv A outer s H vs Q E hr h => ?_)
  · obtain ⟨v, ⟨p, kn, n, rfl, _⟩, k⟩ := h
    rfl
  · obtain ⟨v, ⟨p, kn, n, rfl, hp, hn, rfl⟩, k⟩ := h
    refine ⟨_, (pss_cons (ps_set (i := 1) sc_K_start.nd rfl (Or.inl rfl) (pe_callTy call_int1 (by rfl) T.b_int (by decide +kernel) (pa_cons (pe_cmpR op_eq (pe_fld (pv 0) rfl) pe_str (nomark _)) pa_nil)))
      (pss_one (ps_ret (pe_listRg rfl (by rfl) T.b_list (prg_2 (by rfl) T.b_range (pv 1) (pe_op op_add (pv 1) (pe_fld (pv 0) rfl))))))), ?_⟩
    refine q_asg (ev_intB (ev_is (ev_op (ev_fld (ev_var rfl) hp T.cl T.nN (kf_name _ _)) ev_c (rv_eq rfl)) (congrArg V.bl (Kn.eqs kn .mi)))) fun H1 e1 => ?_
    have e : (strt kn.m n).map V.int = rgV (b2z (decide (kn = .mi))) (b2z (decide (kn = .mi)) + n) := by
      cases kn
      · exact (rgV_rg 0 n).symm
      · exact (rgV_rg 1 n).symm
      · exact (rgV_rg 0 n).symm
    rw [e] at k
    refine s_retL (el_rg2 (ev_var rfl) (ev_op (ev_var rfl) (ev_fld (ev_var rfl) (hp.mono e1) T.cl T.nS (kf_size _ _)) rv_I0) (.of_le ?_ ?_ ?_ ?_)) fun l H2 hl e2 h2 => k.go e1 hl e2 h2
    all_goals
      cases kn <;> simp [b2z] <;> omega
/-- kind.name() == .. -/
theorem ev_kname {σ : L2.St} {H : Hp} {i : Nat} {p : Addr} {kn : Kn} {n : Nat} (s : Kn) (h : σ[i]? = some (some (.ref p))) (hp : KindAt C H p kn n) : Ev (tOp rEq (tMeth C "name" (sp_K_name K C) [] E0 (tVar i) tNil) (tC (.str s.s))) σ H (.bl (decide (kn = s))) :=
  ev_is (ev_op (ev_m0 (ev_var h) hp (PV.sp fun H1 e => ⟨p, kn, n, rfl, hp.mono e, rfl⟩)) ev_c (rv_eq rfl)) (congrArg V.bl (Kn.eqs kn s))
theorem ok_is_crossed {f : Addr} {fd : FuncData} (F : FnP K "is_crossed" "is_crossed" s_is_crossed f fd) (T : Tx K w mg C D) (m_name : Met P w K mg base 1 C "name" (sp_K_name K C)) : FnOk P w K mg base CX0 2 f fd ["kind", "order", "step"] (sp_is_crossed K C) := by
  refine fn0 F sc_is_crossed (fun vs H Q E h => ?_) (fun cdv A outer s H vs Q E hr h => ?_)
  · obtain ⟨v, ⟨p, a, kn, n, j, o, rfl, _⟩, k⟩ := h
    rfl
  · obtain ⟨v, ⟨p, a, kn, n, j, o, rfl, hp, ho, hl, hj, hv, rfl⟩, k⟩ := h
    refine ⟨_, (pss_cons (ps_if (pt_cmpR op_eq (pm0 m_name hr (pv 0)) pe_str (nomark _)) (pss_one (ps_ret (pe_ifExp (pt_cmpR op_eq (pv 2) pe_int (nomark _)) (pe_cmpR op_lt (pe_ix ix_seq (pv 1) pe_int (fun _ _ => rfl)) pe_int (nomark _)) (pe_cmpR op_gt (pe_ix ix_seq (pv 1) (pe_op op_sub (pv 2) pe_int) (fun _ _ => rfl)) (pe_ix ix_seq (pv 1) (pv 2) (fun _ _ => rfl)) (nomark _))))) pss_nil)
      (pss_cons (ps_if (PW.pt (pw_and (pt_cmpR op_eq (pm0 m_name hr (pv 0)) pe_str (nomark _)) (pw_and1 (pt_cmpR op_eq (pv 2) (pe_op op_sub (pe_callB call_len_seq (by rfl) T.b_len (by decide +kernel) (pa_cons (pv 1) pa_nil)) pe_int) (nomark _))))) (pss_one (ps_ret (pe_cmpR op_gt (pe_ix ix_seq (pv 1) (pv 2) (fun _ _ => rfl)) (pe_op op_add (pe_ix ix_seq (pv 1) pe_int (fun _ _ => rfl)) (pe_callB call_len_seq (by rfl) T.b_len (by decide +kernel) (pa_cons (pv 1) pa_nil))) (nomark _)))) pss_nil)
      (pss_one (ps_ret (pe_cmpR op_gt (pe_ix ix_seq (pv 1) (pv 2) (fun _ _ => rfl)) (pe_ix ix_seq (pv 1) (pe_op op_add (pv 2) pe_int) (fun _ _ => rfl)) (nomark _)))))), ?_⟩
    refine q_when (et_test (ev_kname .mi rfl hp)) (fun z H1 e1 => ?_) (fun z H1 e1 => ?_)
    · have z := of_decide_eq_true z
      subst z
      have hj' : j < n := hj
      have ho1 := ho.mono e1
      refine s_ret (ev_if (b := decide (j = 0)) (et_test (ev_is (ev_op (ev_var rfl) ev_c (rv_eq rfl)) ?_)) (fun y => ?_) (fun y => ?_)) fun H2 e2 => k H2 (e1.trans e2)
      · simp [dec_int]
      · have y := of_decide_eq_true y
        subst y
        exact ev_is (ev_op (ev_op (ev_var rfl) ev_c (rv_ix ho1 (by decide) (by omega))) ev_c rv_I0) rfl
      · have y := of_decide_eq_false y
        obtain ⟨i, rfl⟩ : ∃ i, j = i + 1 := ⟨j - 1, by omega⟩
        refine ev_is (ev_op (ev_op (ev_var rfl) (ev_op (ev_var rfl) ev_c rv_I0) (rv_ix ho1 (by omega) (by omega))) (ev_op (ev_var rfl) (ev_var rfl) (rv_ix ho1 (by omega) (by omega))) rv_I0) ?_
        show V.bl (decide (gd o (((i + 1 : Nat) : Int)).toNat < gd o (((i + 1 : Nat) : Int) - 1).toNat)) = V.bl (decide (gd o (i + 1) < gd o i))
        rw [show (((i + 1 : Nat) : Int)).toNat = i + 1 by omega, show (((i + 1 : Nat) : Int) - 1).toNat = i by omega]
    · have z := of_decide_eq_false z
      have ho1 := ho.mono e1
      have hm : kn.m = false := by cases kn <;> first | rfl | exact absurd rfl z
      by_cases hb : kn = .ri ∧ j + 1 = n
      · obtain ⟨rfl, hb2⟩ := hb
        have hvd := hv rfl
        refine q_when (b := true) (et_is (et_and (et_test (ev_kname .ri rfl (hp.mono e1))) fun _ => et_test (ev_is (ev_op (ev_var rfl) (ev_op (ev_lenq (ev_var rfl) ho1) ev_c rv_I0) (rv_eq rfl)) (w := .bl true) ?_)) rfl) (fun _ H2 e2 => ?_) (fun y => by cases y)
        · rw [List.length_map, dec_int, beq_iff_eq.mpr (by omega)]
        · have ho2 := ho1.mono e2
          have m1 := hvd.memP (gd_mem (o := o) (i := j) (by omega))
          have m2 := hvd.memP (gd_mem (o := o) (i := 0) (by omega))
          refine s_ret (ev_is (ev_op (ev_op (ev_var rfl) (ev_var rfl) (rv_ix ho2 (by omega) (by omega))) (ev_op (ev_op (ev_var rfl) ev_c (rv_ix ho2 (by decide) (by omega))) (ev_lenq (ev_var rfl) ho2) rv_I0) rv_I0) ?_) fun H3 e3 => k H3 ((e1.trans e2).trans e3)
          unfold crk
          rw [if_pos ⟨rfl, hb2⟩, List.length_map]
          congr 1
          refine decide_eq_false ?_
          have t1 : ((j : Int)).toNat = j := by omega
          have t2 : (0 : Int).toNat = 0 := rfl
          rw [t1, t2]
          omega
      · have hj2 : j + 1 < n := by
          unfold stN at hj
          cases kn with
          | pl => simp at hj; omega
          | mi => exact absurd rfl z
          | ri =>
            simp at hj
            have : ¬ j + 1 = n := fun q => hb ⟨rfl, q⟩
            omega
        refine q_when (b := false) (et_is (et_and (b := false) (et_test (ev_kname .ri rfl (hp.mono e1))) fun _ => et_test (ev_is (ev_op (ev_var rfl) (ev_op (ev_lenq (ev_var rfl) ho1) ev_c rv_I0) (rv_eq rfl)) (w := .bl false) ?_)) (by rw [Bool.and_false])) (fun y => by cases y) (fun _ H2 e2 => ?_)
        · rw [List.length_map, dec_int, beq_eq_false_iff_ne.mpr (by omega)]
        · have ho2 := ho1.mono e2
          refine s_ret (ev_is (ev_op (ev_op (ev_var rfl) (ev_var rfl) (rv_ix ho2 (by omega) (by omega))) (ev_op (ev_var rfl) (ev_op (ev_var rfl) ev_c rv_I0) (rv_ix ho2 (by omega) (by omega))) rv_I0) ?_) fun H3 e3 => k H3 ((e1.trans e2).trans e3)
          unfold crk
          rw [if_neg hb, hm]
          show V.bl (decide (gd o ((j : Int) + 1).toNat < gd o ((j : Int)).toNat)) = V.bl (decide (gd o (j + 1) < gd o j))
          rw [show ((j : Int) + 1).toNat = j + 1 by omega, show ((j : Int)).toNat = j by omega]
/-- all but l stays -/
def Exl (l : Addr) (H H' : Hp) : Prop := ∀ b o, b ≠ l → H b = some o → H' b = some o
theorem Exl.ex {l : Addr} {H0 H H' : Hp} (e : Ex H0 H) (h : H0 l = none) (x : Exl l H H') : Ex H0 H' := fun b o hb => x b o (ne_of_none hb h) (e b o hb)
theorem Exl.of {l : Addr} {H H' : Hp} (e : Ex H H') : Exl l H H' := fun b o _ hb => e b o hb
theorem Exl.trans {l : Addr} {H H1 H2 : Hp} (a : Exl l H H1) (b : Exl l H1 H2) : Exl l H H2 := fun c o hc h => b c o hc (a c o hc h)
theorem Exl.upd {l : Addr} {H : Hp} {u : HO} : Exl l H (L2.upd H l u) := fun b o hb h => by rw [upd_ne hb]; exact h
section
variable {σ : L2.St} {H H' : Hp} {ta tb te tx to1 to2 ti tj tv tw : TE} {v y : V} {D' : Ends} {tz : TS}
/-- l[i], l[j] = v, w -/
theorem s_set2 {l : Addr} {xs : List V} {i j : Nat} (hl : H l = some (.lst xs)) (hv : Ev tv σ H v) (hw : Ev tw σ H y) (ho1 : Ev to1 σ H (.ref l)) (hi : Ev ti σ H (.int (i : Int))) (ho2 : ∀ H', Ev to2 σ H' (.ref l)) (hj : ∀ H', Ev tj σ H' (.int (j : Int)))
    (li : i < xs.length) (lj : j < xs.length) (k : ∀ H', H' l = some (.lst ((xs.set i v).set j y)) → Exl l H H' → D'.nx σ H') :
    tAsg (tTup (tCons tv (tCons tw tNil))) (gTup K 2 (gCons (gSub to1 ti rSetL) (gCons (gSub to2 tj rSetL) gNil))) D' σ H :=
  hv H (Ex.refl H) _ fun H1 e1 => hw H1 e1 _ fun H2 e2 => by
    refine ⟨by show 2 ≤ sizeLine; decide, fun t ht => ?_⟩
    have e3 : Ex H (L2.upd H2 t (.tup [v, y])) := (e1.trans e2).trans (Ex.new ht)
    refine ⟨t, [v, y], rfl, st_of upd_same, rfl, v, [y], rfl, ?_⟩
    refine ho1 _ e3 _ fun H4 e4 => hi H4 (e3.trans e4) _ fun H5 e5 => ?_
    have e6 := (e3.trans e4).trans e5
    refine ⟨l, xs, (i : Int), i, rfl, rfl, e6 _ _ hl, ixN_nat li, y, [], rfl, ?_⟩
    refine ho2 _ _ (Ex.refl _) _ fun H7 e7 => hj _ H7 (Ex.refl _) _ fun H8 e8 => ?_
    have e9 := e7.trans e8
    refine ⟨l, xs.set i v, (j : Int), j, rfl, rfl, e9 _ _ upd_same, ixN_nat (by rw [List.length_set]; exact lj), rfl, ?_⟩
    exact k _ upd_same (((Exl.of e6).trans Exl.upd).trans ((Exl.of e9).trans Exl.upd))
end
theorem set_map (o : List Int) (i : Nat) (x : Int) : (o.map V.int).set i (V.int x) = (o.set i x).map V.int := by rw [List.map_set]
theorem ok_by_step {f : Addr} {fd : FuncData} (F : FnP K "by_step" "by_step" s_by_step f fd) (T : Tx K w mg C D) (m_name : Met P w K mg base 1 C "name" (sp_K_name K C)) : FnOk P w K mg base CX0 2 f fd ["kind", "order", "step"] (sp_by_step K C) := by
  refine fn0 F sc_by_step (fun vs H Q E h => ?_) (fun cdv A outer s H vs Q E hr h => ?_)
  · obtain ⟨v, ⟨p, a, kn, n, j, o, rfl, _⟩, k⟩ := h
    rfl
  · obtain ⟨v, ⟨p, a, kn, n, j, o, rfl, hp, ho, hl, hn7, hj, rfl⟩, k⟩ := h
    refine ⟨_, (pss_cons (ps_set (i := 3) sc_by_step.nd rfl (Or.inl rfl) (pe_callTy call_list_of (by rfl) T.b_list (by decide +kernel) (pa_cons (pv 1) pa_nil)))
      (pss_cons (ps_if (PW.pt (pw_and (pt_cmpR op_eq (pm0 m_name hr (pv 0)) pe_str (nomark _)) (pw_and1 (pt_cmpR op_eq (pv 2) pe_int (nomark _))))) (pss_one (ps_asg (pe_un un_neg (pe_ix ix_seq (pv 3) pe_int (fun _ _ => rfl))) (pg_sub (pv 3) pe_int set_list))) (pss_one (ps_if (PW.pt (pw_and (pt_cmpR op_eq (pm0 m_name hr (pv 0)) pe_str (nomark _)) (pw_and1 (pt_cmpR op_eq (pv 2) (pe_op op_sub (pe_callB call_len_seq (by rfl) T.b_len (by decide +kernel) (pa_cons (pv 1) pa_nil)) pe_int) (nomark _))))) (pss_one (ps_asg (pe_tup (pa_cons (pe_op op_sub (pe_ix ix_seq (pv 1) (pv 2) (fun _ _ => rfl)) (pe_callB call_len_seq (by rfl) T.b_len (by decide +kernel) (pa_cons (pv 1) pa_nil))) (pa_cons (pe_op op_add (pe_ix ix_seq (pv 1) pe_int (fun _ _ => rfl)) (pe_callB call_len_seq (by rfl) T.b_len (by decide +kernel) (pa_cons (pv 1) pa_nil))) pa_nil))) (pg_tup rfl (pgs_cons (pg_sub (pv 3) pe_int set_list) (pgs_cons (pg_sub (pv 3) (pv 2) set_list) pgs_nil))))) (pss_cons (ps_set (i := 4) sc_by_step.nd rfl (Or.inl rfl) (pe_op op_sub (pv 2) (pe_callTy call_int1 (by rfl) T.b_int (by decide +kernel) (pa_cons (pe_cmpR op_eq (pm0 m_name hr (pv 0)) pe_str (nomark _)) pa_nil))))
      (pss_one (ps_asg (pe_tup (pa_cons (pe_ix ix_seq (pv 1) (pe_op op_add (pv 4) pe_int) (fun _ _ => rfl)) (pa_cons (pe_ix ix_seq (pv 1) (pv 4) (fun _ _ => rfl)) pa_nil))) (pg_tup rfl (pgs_cons (pg_sub (pv 3) (pv 4) set_list) (pgs_cons (pg_sub (pv 3) (pe_op op_add (pv 4) pe_int) set_list) pgs_nil)))))))))
      (pss_one (ps_ret (pv 3))))), ?_⟩
    refine q_asgL (el_listq (ev_var rfl) ho) fun l H1 hl0 e1 h1 => ?_
    refine q_if (et_and (et_test (ev_kname .mi rfl (hp.mono e1))) fun _ => et_test (ev_op (ev_var rfl) ev_c (rv_eq rfl))) (fun z H2 e2 => ?_) (fun z H2 e2 => ?_)
    · rw [Bool.and_eq_true] at z
      obtain ⟨z1, z2⟩ := z
      have z1 := of_decide_eq_true z1
      subst z1
      rw [dec_int, beq_iff_eq] at z2
      have hj0 : j = 0 := by omega
      subst hj0
      have hn : 0 < n := hj
      have h2 : H2 l = some (.lst (o.map V.int)) := e2 _ _ h1
      refine s_setL (j := 0) h2 (ev_un (ev_op (ev_var rfl) ev_c (rv_ix (.inl (sq_of h2)) (by decide) (by omega))) ru_neg) (ev_var rfl) ev_c (by rw [List.length_map]; omega) fun H3 e3 => ?_
      refine s_ret (ev_var rfl) fun H4 e4 => k l H4 hl0 (Ex.trans (Exl.ex (e1.trans (e2.trans e3)) hl0 Exl.upd) e4) (e4 _ _ ?_)
      rw [upd_same, set_map]
      rfl
    · have hns : ¬ (kn = .mi ∧ j = 0) := by
        rintro ⟨rfl, rfl⟩
        simp [dec_int] at z
      have hp2 := hp.mono (e1.trans e2)
      have ho2 := ho.mono (e1.trans e2)
      have hrj : kn = .ri → j + 1 < n := by
        rintro rfl
        have : j < n - 1 := hj
        omega
      refine s_if (b := false) (et_is (et_and (et_test (ev_kname .ri rfl hp2)) fun _ => et_test (ev_op (ev_var rfl) (ev_op (ev_lenq (ev_var rfl) ho2) ev_c rv_I0) (rv_eq rfl))) ?_) (fun y => by cases y) (fun _ H3 e3 => ?_)
      · cases kn
        · rfl
        · rfl
        · have := hrj rfl
          rw [List.length_map, dec_int, beq_eq_false_iff_ne.mpr (by omega), Bool.and_false]
      · have e13 := e1.trans (e2.trans e3)
        refine q_asg (ev_op (ev_var rfl) (ev_intB (ev_kname .mi rfl (hp.mono e13))) rv_I0) fun H4 e4 => ?_
        have e14 := e13.trans e4
        obtain ⟨i, hi, hi1, est⟩ : ∃ i : Nat, (j : Int) - b2z (decide (kn = .mi)) = i ∧ i + 1 < n ∧ stp kn.m o j = swp o i := by
          cases kn with
          | pl =>
            have : j < n - 1 := hj
            exact ⟨j, by simp [b2z], by omega, rfl⟩
          | mi =>
            have : j < n := hj
            have : j ≠ 0 := fun q => hns ⟨rfl, q⟩
            obtain ⟨i, rfl⟩ : ∃ i, j = i + 1 := ⟨j - 1, by omega⟩
            exact ⟨i, by simp [b2z], by omega, rfl⟩
          | ri => exact ⟨j, by simp [b2z], hrj rfl, rfl⟩
        rw [hi]
        have h4 : H4 l = some (.lst (o.map V.int)) := (e2.trans (e3.trans e4)) _ _ h1
        have ho4 := ho.mono e14
        refine s_set2 (i := i) (j := i + 1) h4 (ev_op (ev_var rfl) (ev_op (ev_var rfl) ev_c rv_I0) (rv_ix ho4 (by omega) (by omega))) (ev_op (ev_var rfl) (ev_var rfl) (rv_ix ho4 (by omega) (by omega))) (ev_var rfl) (ev_var rfl) (fun _ => ev_var rfl)
          (fun _ => ev_is (ev_op (ev_var rfl) ev_c rv_I0) (by rw [Int.natCast_add]; rfl)) (by rw [List.length_map]; omega) (by rw [List.length_map]; omega) fun H5 h5 x5 => ?_
        refine s_ret (ev_var rfl) fun H6 e6 => k l H6 hl0 (Ex.trans (Exl.ex e14 hl0 x5) e6) (e6 _ _ ?_)
        rw [h5, set_map, set_map, est]
        rw [show ((i : Int) + 1).toNat = i + 1 by omega, show ((i : Int)).toNat = i by omega]
        rfl
end
end SL

set_option Elab.async false
set_option linter.all false
set_option maxRecDepth 100000
set_option maxHeartbeats 4000000
namespace SL
open PySem PySem.Spec PyProof.Rows L2 Evl
/-! ### rules whose written part is named, for what stands within a comprehension -/
section
variable {X : Cx} {K : PySem.W.Frag}
theorem ix_seqK (h : X.K = K) : IxR X (rIx K) := by
  subst h
  exact ix_seq
theorem op_inK (h : X.K = K) : OpR X (compareOp .In) (rIn K false) := by
  subst h
  exact op_in_seq
theorem cr_sortedK (h : X.K = K) : CallR X (.builtin "sorted") (rSorted K) := by
  subst h
  exact cr_sorted
theorem call_listK (h : X.K = K) : CallR X (.type "list") (rListS K) := by
  subst h
  exact call_list_of
theorem pe_indexK {o e : Expr} {to : TE} {t : TA} {apos cpos : Pos} (h : X.K = K) (ho : PE X o to) (ha : PA X [e] t) (hbase : attributeBase o "index" X.env (eval o X.env) = eval o X.env := by rfl) (hfew : ((backTo cpos (starEach [e] X.env)).all (fun x => !x.1) && (backToKw cpos (keywordEach [] X.env)).all (fun x => x.1.isSome) && decide (([e] : List Expr).length + ([] : List Keyword).length + (if ([] : List Keyword).isEmpty then 0 else 1) < 30)) = true := by rfl)
    (hline : (apos.endLine == cpos.line) = true := by rfl) (hs : starEach [e] X.env = (false, eval e X.env) :: starEach [] X.env := by rfl) (hp : (backTo cpos (starEach [] X.env)).any (·.1) = false := by rfl) :
    PE X (.Call (.Attribute o "index" apos) [e] [] cpos) (tBM K "list" (rIndex K) to t) := by
  subst h
  exact pe_bm PySem.F.plainAttrs_list PySem.F.slot_list_index PySem.F.type_list_index mt_index ho ha hbase hfew hline hs hp
end
section
variable {K : PySem.W.Frag} {σ : L2.St} {H H' : Hp} {ta tb te tl : TE} {t : TT} {x y z v : V} {tu tz : TS} {D : Ends}
/-! ### comprehensions -/
theorem et_yes : EvT tYes σ H true := fun H1 _ _ q => q H1 (Ex.refl H1)
theorem given_map (o : List Int) (g : Int → V) : given o.length (fun _ => true) (fun i => g (gd o i)) = o.map g := by
  unfold given
  rw [List.filter_eq_self.mpr (fun _ _ => rfl)]
  refine List.ext_getElem (by simp) fun i h1 h2 => ?_
  rw [List.getElem_map, List.getElem_range, List.getElem_map, gd_eq (by simpa using h2)]
theorem get_int {o : List Int} {i : Nat} {x : V} (h : (o.map V.int)[i]? = some x) : i < o.length ∧ x = .int (gd o i) ∧ gd o i ∈ o := by
  rw [List.getElem?_map] at h
  cases e : o[i]? with
  | none =>
    rw [e] at h
    cases h
  | some y =>
    rw [e] at h
    have hi := (List.getElem?_eq_some_iff.mp e).1
    refine ⟨hi, ?_, gd_mem hi⟩
    rw [gd_lt hi] at e
    cases e
    exact (Option.some.inj h).symm
/-- [g(x) for x in o] -/
theorem el_map {a : Addr} {o : List Int} {j : Nat} {vs : List Nat} (g : Int → V) (h : Ev tl σ H (.ref a)) (hx : SqL K H a (o.map V.int)) (hz : o.length ≤ 40000) (hw : ∀ x, wipe ((wipe σ vs).set j (some x)) vs = wipe σ vs)
    (he : ∀ (i : Int) H1, Ex H H1 → i ∈ o → Ev te ((wipe σ vs).set j (some (.int i))) H1 (g i)) : EvL (tLc (iList K tl) (gName j) tYes te vs) σ H (o.map g) := by
  have e := el_lcL (K := K) (t := tYes) (te := te) (fun _ => true) (fun i => g (gd o i)) h hx (by rw [List.length_map]; exact hz) hw (fun _ _ _ _ _ => et_yes) (fun i x H1 e hi _ => by
    obtain ⟨_, rfl, hm⟩ := get_int hi
    exact he _ H1 e hm)
  rw [List.length_map, given_map] at e
  exact e
/-- .. over a new list -/
theorem el_mapN {o : List Int} {j : Nat} {vs : List Nat} (g : Int → V) (h : EvL tl σ H (o.map V.int)) (hz : o.length ≤ 40000) (hw : ∀ x, wipe ((wipe σ vs).set j (some x)) vs = wipe σ vs)
    (he : ∀ (i : Int) H1, Ex H H1 → i ∈ o → Ev te ((wipe σ vs).set j (some (.int i))) H1 (g i)) : EvL (tLc (iList K tl) (gName j) tYes te vs) σ H (o.map g) := by
  have e := el_lcNL (K := K) (t := tYes) (te := te) (fun _ => true) (fun i => g (gd o i)) h (by rw [List.length_map]; exact hz) hw (fun _ _ _ _ _ => et_yes) (fun i x H1 e hi _ => by
    obtain ⟨_, rfl, hm⟩ := get_int hi
    exact he _ H1 e hm)
  rw [List.length_map, given_map] at e
  exact e
/-- [x for x in o if f(x)] -/
theorem given_filter (f : Int → Bool) (g : Int → V) : ∀ o : List Int, given o.length (fun i => f (gd o i)) (fun i => g (gd o i)) = (o.filter f).map g := by
  intro o
  unfold given
  have e : o = (List.range o.length).map (gd o) := by
    refine List.ext_getElem (by simp) fun i h1 h2 => ?_
    rw [List.getElem_map, List.getElem_range, gd_eq h1]
  conv => rhs; rw [e]
  rw [List.filter_map, List.map_map]
  rfl
theorem el_filter {a : Addr} {o : List Int} {j : Nat} {vs : List Nat} (f : Int → Bool) (g : Int → V) (h : Ev tl σ H (.ref a)) (hx : SqL K H a (o.map V.int)) (hz : o.length ≤ 40000) (hw : ∀ x, wipe ((wipe σ vs).set j (some x)) vs = wipe σ vs)
    (ht : ∀ (i : Int) H1, Ex H H1 → i ∈ o → EvT t ((wipe σ vs).set j (some (.int i))) H1 (f i))
    (he : ∀ (i : Int) H1, Ex H H1 → i ∈ o → Ev te ((wipe σ vs).set j (some (.int i))) H1 (g i)) : EvL (tLc (iList K tl) (gName j) t te vs) σ H ((o.filter f).map g) := by
  have e := el_lcL (K := K) (t := t) (te := te) (fun i => f (gd o i)) (fun i => g (gd o i)) h hx (by rw [List.length_map]; exact hz) hw (fun i x H1 e hi => by
    obtain ⟨_, rfl, hm⟩ := get_int hi
    exact ht _ H1 e hm) (fun i x H1 e hi _ => by
    obtain ⟨_, rfl, hm⟩ := get_int hi
    exact he _ H1 e hm)
  rw [List.length_map, given_filter] at e
  exact e
/-! ### [x] * k, a + b, a[::-1], sorted -/
theorem el_rep {xs : List V} {k : Nat} (ha : EvL ta σ H xs) (hb : ∀ H1, Ex H H1 → Ev tb σ H1 (.int (k : Int))) (hk : k ≤ 1000) (hl : xs.length ≤ 1000) : EvL (tOp rRep ta tb) σ H ((List.replicate k xs).flatten) := fun H1 e Q q => ha H1 e _ fun p H2 hp e2 h2 => hb H2 (e.trans e2) H2 (Ex.refl H2) _ fun H3 e3 => by
  refine ⟨p, (k : Int), xs, rfl, rfl, e3 _ _ h2, by omega, by omega, ?_, fun r hr => q r _ (fresh_back (e2.trans e3) hr) ((e2.trans e3).trans (Ex.new hr)) ?_⟩
  · rw [Int.toNat_natCast, sizeLine_eq]
    exact Nat.le_trans (Nat.mul_le_mul hl hk) (by decide)
  · rw [Int.toNat_natCast]
    exact upd_same
theorem rep_one (k : Nat) (x : V) : (List.replicate k [x]).flatten = List.replicate k x := by
  induction k with
  | zero => rfl
  | succ k ih =>
    rw [List.replicate_succ, List.flatten_cons, ih]
    rfl
theorem el_cat {xs ys : List V} (ha : EvL ta σ H xs) (hb : EvL tb σ H ys) (h1 : xs.length ≤ 10000) (h2 : ys.length ≤ 10000) : EvL (tOp rCat ta tb) σ H (xs ++ ys) := fun H1 e Q q => ha H1 e _ fun p H2 hp e2 hp2 => hb H2 (e.trans e2) _ fun r H3 hr e3 hr3 =>
  ⟨p, r, xs, ys, rfl, rfl, e3 _ _ hp2, hr3, sz_of (by omega), fun u hu => q u _ (fresh_back (e2.trans e3) hu) ((e2.trans e3).trans (Ex.new hu)) upd_same⟩
theorem el_rev {a : Addr} {xs : List V} (ha : Ev ta σ H (.ref a)) (h : SqL K H a xs) : EvL (tRevL K ta) σ H xs.reverse := fun H1 e Q q => ha H1 e _ fun H2 e2 =>
  ⟨a, xs, rfl, ex_l (e.trans e2) h, fun r hr => q r _ (fresh_back e2 hr) (e2.trans (Ex.new hr)) upd_same⟩
theorem sorted_one {a b : List Int} (p : a.Perm b) (h1 : a.Pairwise (· ≤ ·)) (h2 : b.Pairwise (· ≤ ·)) : a = b :=
  List.Perm.eq_of_pairwise (fun x y _ _ h h' => Int.le_antisymm h h') h1 h2 p
theorem el_sorted {a : Addr} {o s : List Int} (ha : Ev ta σ H (.ref a)) (h : SqL K H a (o.map V.int)) (p : o.Perm s) (hs : s.Pairwise (· ≤ ·)) (hl : o.length < 64) : EvL (tCB (rSorted K) (tCons ta tNil)) σ H (s.map V.int) := fun H1 e Q q => ha H1 e _ fun H2 e2 =>
  ⟨a, o, rfl, ex_l (e.trans e2) h, hl, fun ns r pm pw hr => by
    have e3 : ns = s := sorted_one (pm.trans p) pw hs
    subst e3
    exact q r _ (fresh_back e2 hr) (e2.trans (Ex.new hr)) upd_same⟩
theorem el_sortedN {o s : List Int} (ha : EvL ta σ H (o.map V.int)) (p : o.Perm s) (hs : s.Pairwise (· ≤ ·)) (hl : o.length < 64) : EvL (tCB (rSorted K) (tCons ta tNil)) σ H (s.map V.int) := fun H1 e Q q => ha H1 e _ fun a H2 ha2 e2 h2 =>
  ⟨a, o, rfl, sq_of h2, hl, fun ns r pm pw hr => by
    have e3 : ns = s := sorted_one (pm.trans p) pw hs
    subst e3
    exact q r _ (fresh_back e2 hr) (e2.trans (Ex.new hr)) upd_same⟩
theorem rg_sorted (a n : Nat) : (rg a n).Pairwise (· ≤ ·) := by
  unfold rg
  rw [List.pairwise_map]
  exact (List.pairwise_lt_range (n := n)).imp fun h => by omega
theorem ev_sum {a : Addr} {o : List Int} (ha : Ev ta σ H (.ref a)) (h : SqL K H a (o.map V.int)) : Ev (tCB (rSum K) (tCons ta tNil)) σ H (.int o.sum) := fun H1 e Q q => ha H1 e _ fun H2 e2 => ⟨a, o, rfl, ex_l (e.trans e2) h, q H2 e2⟩
/-! ### == of lists -/
theorem canLayAll_ints : ∀ o : List Int, PyData.canLayAll0 (o.map PyData.int) = true
  | [] => rfl
  | i :: o => by
    show (PyData.canLay0 (PyData.int i) && PyData.canLayAll0 (o.map PyData.int)) = true
    rw [canLayAll_ints o]
    rfl
theorem depthAll_ints : ∀ o : List Int, PyData.depthAll (o.map PyData.int) = 0
  | [] => rfl
  | i :: o => by
    show max (PyData.depth (PyData.int i)) (PyData.depthAll (o.map PyData.int)) = 0
    rw [depthAll_ints o]
    rfl
theorem shaped_pyL (o : List Int) : SeqAt.shaped (pyL o) = true := by
  show (PyData.canLayAll0 (o.map PyData.int) && decide (PyData.depthAll (o.map PyData.int) + 1 ≤ 64)) = true
  rw [canLayAll_ints, depthAll_ints]
  rfl
theorem rv_eqL {a b : Addr} {o p : List Int} (h1 : Ls H a o) (h2 : Ls H b p) : RV (rEqD K) (.ref a) (.ref b) H (.bl (decide (o = p))) := fun H1 e Q q =>
  ⟨pyL o, pyL p, dp_ls (e _ _ h1), dp_ls (e _ _ h2), shaped_pyL o, shaped_pyL p, by rw [eqv_pyL]; exact q H1 (Ex.refl H1)⟩
theorem rv_neL {a b : Addr} {o p : List Int} (h1 : Ls H a o) (h2 : Ls H b p) : RV (rNeD K) (.ref a) (.ref b) H (.bl (!decide (o = p))) := fun H1 e Q q =>
  ⟨pyL o, pyL p, dp_ls (e _ _ h1), dp_ls (e _ _ h2), shaped_pyL o, shaped_pyL p, by rw [eqv_pyL]; exact q H1 (Ex.refl H1)⟩
theorem ev_eqLL {o p : List Int} (ha : EvL ta σ H (o.map V.int)) (hb : EvL tb σ H (p.map V.int)) : Ev (tOp (rEqD K) ta tb) σ H (.bl (decide (o = p))) := ev_opLL ha hb fun _ _ _ h1 h2 _ => rv_eqL h1 h2
theorem ev_neLL {o p : List Int} (ha : EvL ta σ H (o.map V.int)) (hb : EvL tb σ H (p.map V.int)) : Ev (tOp (rNeD K) ta tb) σ H (.bl (!decide (o = p))) := ev_opLL ha hb fun _ _ _ h1 h2 _ => rv_neL h1 h2
/-! ### for i, x in enumerate(xs) -/
theorem for_enum {a : Addr} {xs : List V} {g : TG} {σ : L2.St} {H : Hp} (Pv : Nat → L2.St → Hp → Prop) (h0 : Pv 0 σ H) (hl : ∀ i σ' H', i ≤ xs.length → Pv i σ' H' → SqL K H' a xs)
    (hs : ∀ i x σ' H' T, xs[i]? = some x → Pv i σ' H' → H' T = none → g (.ref T) σ' (L2.upd H' T (.tup [.int (i : Nat), x])) fun σ2 H2 => tu { D with nx := Pv (i + 1), ct := Pv (i + 1), bk := D.nx } σ2 H2) (hd : ∀ σ' H', Pv xs.length σ' H' → D.nx σ' H') :
    ∃ W : Nat → Nat → L2.St → Hp → Prop, (∃ m, W 0 m σ H) ∧ ∀ i m σ H, W i m σ H →
      ((Ite K a).stop i H ∧ D.nx σ H) ∨ ((Ite K a).go i H ∧ ∃ N : L2.St → Hp → Prop, (∀ σ' H', N σ' H' → ∃ m', m' < m ∧ W (i + 1) m' σ' H') ∧ ∀ x H', (Ite K a).yld i H x H' → g x σ H' fun σ2 H2 => tu { D with nx := N, ct := N, bk := D.nx } σ2 H2) := by
  refine ⟨fun j r σ' H' => r = xs.length - j ∧ j ≤ xs.length ∧ Pv j σ' H', ⟨xs.length, (Nat.sub_zero _).symm, Nat.zero_le _, h0⟩, fun i m σ H z => ?_⟩
  obtain ⟨rfl, hi, p⟩ := z
  have q := hl i σ H hi p
  by_cases hlt : i < xs.length
  · refine .inr ⟨⟨xs, xs[i], q, by simp [hlt]⟩, Pv (i + 1), fun σ' H' p' => ⟨xs.length - (i + 1), by omega, rfl, hlt, p'⟩, fun x H' y => ?_⟩
    obtain ⟨T, z, rfl, hT, rfl, hz⟩ := y
    exact hs i z σ H T (hz xs q) p hT
  · have e : i = xs.length := by omega
    subst e
    exact .inl ⟨⟨xs, q, Nat.le_refl _⟩, hd σ H p⟩
theorem s_forE {a : Addr} {xs : List V} {i1 i2 : Nat} {ta : TA} (h : EvA ta σ H [.ref a]) (hx : SqL K H a xs) (Pv : Nat → L2.St → Hp → Prop) (h0 : ∀ H1, Ex H H1 → Pv 0 σ H1) (hl : ∀ i σ' H', i ≤ xs.length → Pv i σ' H' → SqL K H' a xs)
    (hs : ∀ i x σ' H' H2, xs[i]? = some x → Pv i σ' H' → Ex H' H2 → tu { D with nx := Pv (i + 1), ct := Pv (i + 1), bk := D.nx } ((σ'.set i1 (some (.int (i : Nat)))).set i2 (some x)) H2) (hd : ∀ σ' H', Pv xs.length σ' H' → D.nx σ' H') :
    tFor (iEnum K ta) (gTup K 2 (gCons (gName i1) (gCons (gName i2) gNil))) tu D σ H :=
  h H (Ex.refl H) _ fun H1 e => ⟨a, xs, rfl, ex_l e hx, for_enum Pv (h0 H1 e) hl (fun i x σ' H' T hi p hT => ⟨T, _, rfl, st_of upd_same, rfl, .int (i : Nat), [x], rfl, x, [], rfl, rfl, hs i x σ' H' _ hi p (Ex.new hT)⟩) hd⟩
theorem q_forE {a : Addr} {xs : List V} {i1 i2 : Nat} {ta : TA} (h : EvA ta σ H [.ref a]) (hx : SqL K H a xs) (Pv : Nat → L2.St → Hp → Prop) (h0 : ∀ H1, Ex H H1 → Pv 0 σ H1) (hl : ∀ i σ' H', i ≤ xs.length → Pv i σ' H' → SqL K H' a xs)
    (hs : ∀ i x σ' H' H2, xs[i]? = some x → Pv i σ' H' → Ex H' H2 → tu { D with nx := Pv (i + 1), ct := Pv (i + 1), bk := tz D } ((σ'.set i1 (some (.int (i : Nat)))).set i2 (some x)) H2) (hd : ∀ σ' H', Pv xs.length σ' H' → tz D σ' H') :
    tSeq (tFor (iEnum K ta) (gTup K 2 (gCons (gName i1) (gCons (gName i2) gNil))) tu) tz D σ H := s_forE (D := { D with nx := tz D }) h hx Pv h0 hl hs hd
/-- over a slice that is made on the way -/
theorem drop_gd {o : List Int} {i : Nat} (h : i < o.length) : o.drop i = gd o i :: o.drop (i + 1) := by
  rw [gd_eq h]
  exact List.drop_eq_getElem_cons h
theorem cut_drop (xs : List V) (i : Nat) : cutV xs (some (i : Int)) none = xs.drop i := by
  unfold cutV
  rw [HT.sIx_nat, HT.sIx_none]
  by_cases h : i ≤ xs.length
  · rw [Nat.min_eq_left h]
    exact List.take_of_length_le (by rw [List.length_drop]; exact Nat.le_refl _)
  · rw [Nat.min_eq_right (by omega), List.drop_length, List.drop_eq_nil_of_le (by omega), List.take_nil]
theorem cut_take (xs : List V) (i : Nat) : cutV xs none (some (i : Int)) = xs.take i := by
  unfold cutV
  rw [HT.sIx_nat, HT.sIx_none, List.drop_zero, Nat.sub_zero]
  by_cases h : i ≤ xs.length
  · rw [Nat.min_eq_left h]
  · rw [Nat.min_eq_right (by omega), List.take_length, List.take_of_length_le (by omega)]
end
end SL

set_option Elab.async false
set_option linter.all false
set_option maxRecDepth 100000
set_option maxHeartbeats 4000000
namespace SL
open PySem PySem.Spec PyProof.Rows L2 Evl
abbrev s_item_at : Stmt := tp 16
abbrev N_item_at : List Str := ["kind", "order", "place"]
theorem sc_item_at : FnScope N_item_at ["kind", "order", "place"] (defScope s_item_at) := ⟨rfl, rfl, rfl, by decide +kernel, rfl, by decide +kernel, by decide +kernel⟩
abbrev s_product_of : Stmt := tp 17
abbrev N_product_of : List Str := ["kind", "one", "other", "place"]
theorem sc_product_of : FnScope N_product_of ["kind", "one", "other"] (defScope s_product_of) := ⟨rfl, rfl, rfl, by decide +kernel, rfl, by decide +kernel, by decide +kernel⟩
abbrev s_opposite_of : Stmt := tp 18
abbrev N_opposite_of : List Str := ["kind", "order", "found", "at", "item"]
theorem sc_opposite_of : FnScope N_opposite_of ["kind", "order"] (defScope s_opposite_of) := ⟨rfl, rfl, rfl, by decide +kernel, rfl, by decide +kernel, by decide +kernel⟩
abbrev s_falls_of : Stmt := tp 19
abbrev N_falls_of : List Str := ["kind", "order", "step"]
theorem sc_falls_of : FnScope N_falls_of ["kind", "order"] (defScope s_falls_of) := ⟨rfl, rfl, rfl, by decide +kernel, rfl, by decide +kernel, by decide +kernel⟩
abbrev s_crossings_of : Stmt := tp 20
abbrev N_crossings_of : List Str := ["kind", "order", "found", "at", "low", "high"]
theorem sc_crossings_of : FnScope N_crossings_of ["kind", "order"] (defScope s_crossings_of) := ⟨rfl, rfl, rfl, by decide +kernel, rfl, by decide +kernel, by decide +kernel⟩
abbrev s_crossings_between : Stmt := tp 21
abbrev N_crossings_between : List Str := ["kind", "size", "low", "high"]
theorem sc_crossings_between : FnScope N_crossings_between ["kind", "size", "low", "high"] (defScope s_crossings_between) := ⟨rfl, rfl, rfl, by decide +kernel, rfl, by decide +kernel, by decide +kernel⟩
/-- a place of an order -/
def plOk (k : Kn) (n : Nat) (x : Int) : Prop := if k = .mi then 1 ≤ ab x ∧ ab x ≤ n else 0 ≤ x ∧ x < n
theorem plOk_of {k : Kn} {n : Nat} {o : List Int} (h : Vd k.m n o) {x : Int} (hx : x ∈ o) : plOk k n x := by
  cases k with
  | pl => exact Vd.memP h hx
  | mi => exact Vd.memM h hx
  | ri => exact Vd.memP h hx
def sp_item_at (K : PySem.W.Frag) (C : Addr) : Sp := PV fun vs H v => ∃ (p a : Addr) (k : Kn) (n : Nat) (o : List Int) (x : Int), vs = [.ref p, .ref a, .int x] ∧ KindAt C H p k n ∧ Ls H a o ∧ o.length = n ∧ plOk k n x ∧ v = .int (itm k.m o x)
def sp_product_of (K : PySem.W.Frag) (C : Addr) : Sp := PL fun vs H xs => ∃ (p a b : Addr) (k : Kn) (n : Nat) (o q : List Int), vs = [.ref p, .ref a, .ref b] ∧ KindAt C H p k n ∧ Ls H a o ∧ Ls H b q ∧ n ≤ 7 ∧ Vd k.m n o ∧ Vd k.m n q ∧ xs = (prd k.m o q).map V.int
def sp_opposite_of (K : PySem.W.Frag) (C : Addr) : Sp := PL fun vs H xs => ∃ (p a : Addr) (k : Kn) (n : Nat) (o : List Int), vs = [.ref p, .ref a] ∧ KindAt C H p k n ∧ Ls H a o ∧ n ≤ 7 ∧ Vd k.m n o ∧ xs = (opp k.m n o).map V.int
def nI (l : List Nat) : List Int := l.map fun j : Nat => (j : Int)
def sp_falls_of (K : PySem.W.Frag) (C : Addr) : Sp := PL fun vs H xs => ∃ (p a : Addr) (k : Kn) (n : Nat) (o : List Int), vs = [.ref p, .ref a] ∧ KindAt C H p k n ∧ Ls H a o ∧ 1 ≤ n ∧ n ≤ 7 ∧ Vd k.m n o ∧ xs = (nI (fls k.m n o)).map V.int
def sp_crossings_of (K : PySem.W.Frag) (C : Addr) : Sp := PV fun vs H v => ∃ (p a : Addr) (k : Kn) (n : Nat) (o : List Int), vs = [.ref p, .ref a] ∧ KindAt C H p k n ∧ Ls H a o ∧ n ≤ 7 ∧ Vd k.m n o ∧ v = .int (crs k.m o 0)
def sp_crossings_between (K : PySem.W.Frag) (C : Addr) : Sp := PV fun vs H v => ∃ (p : Addr) (k : Kn) (n : Nat) (x y : Int), vs = [.ref p, .int n, .int x, .int y] ∧ KindAt C H p k n ∧ n ≤ 7 ∧ (k = .ri → 0 ≤ x ∧ x < n ∧ 0 ≤ y ∧ y < n) ∧ v = .int (cb k.m x y)
section
variable {P : Program} {w : World} {K : PySem.W.Frag} {mg : Str → Option Value} {base : Heap} {C D : Addr}
theorem vd_ls {k : Kn} {n : Nat} {o : List Int} (h : Vd k.m n o) : k = .ri → Vd false n o := by
  rintro rfl
  exact h
/-- 1 if x > 0 else -1 -/
theorem ev_sg {σ : L2.St} {H : Hp} {tx : TE} {x : Int} (h : Ev tx σ H (.int x)) : Ev (tIf (tTest (tOp (rI0 fun i j => .bl (decide (j < i))) tx (tC (.int 0)))) (tC (.int 1)) (tUn (rU fun i => .int (-i)) (tC (.int 1)))) σ H (.int (sg x)) := by
  refine ev_if (et_test (ev_op h ev_c rv_I0)) (fun z => ?_) (fun z => ?_)
  · have z := of_decide_eq_true z
    unfold sg
    rw [if_pos z]
    exact ev_c
  · have z := of_decide_eq_false z
    unfold sg
    rw [if_neg z]
    exact ev_un ev_c ru_neg
theorem sg_small (x : Int) : -(2 ^ 64) < sg x ∧ sg x < 2 ^ 64 := by
  unfold sg
  split <;> decide
theorem ok_item_at {f : Addr} {fd : FuncData} (F : FnP K "item_at" "item_at" s_item_at f fd) (T : Tx K w mg C D) (m_name : Met P w K mg base 1 C "name" (sp_K_name K C)) : FnOk P w K mg base CX0 2 f fd ["kind", "order", "place"] (sp_item_at K C) := by
  refine fn0 F sc_item_at (fun vs H Q E h => ?_) (fun cdv A outer s H vs Q E hr h => ?_)
  · obtain ⟨v, ⟨p, a, kn, n, o, x, rfl, _⟩, k⟩ := h
    rfl
  · obtain ⟨v, ⟨p, a, kn, n, o, x, rfl, hp, ho, hl, hx, rfl⟩, k⟩ := h
    refine ⟨_, (pss_cons (ps_if (pt_cmpR op_eq (pm0 m_name hr (pv 0)) pe_str (nomark _)) (pss_one (ps_ret (pe_op op_mul (pe_ix ix_seq (pv 1) (pe_op op_sub (pe_callB call_abs (by rfl) T.b_abs (by decide +kernel) (pa_cons (pv 2) pa_nil)) pe_int) (fun _ _ => rfl)) (pe_ifExp (pt_cmpR op_gt (pv 2) pe_int (nomark _)) pe_int (pe_un un_neg pe_int))))) pss_nil)
      (pss_one (ps_ret (pe_op op_sub (pe_op op_add (pe_ix ix_seq (pv 1) (pe_op op_mod (pv 2) (pe_callB call_len_seq (by rfl) T.b_len (by decide +kernel) (pa_cons (pv 1) pa_nil))) (fun _ _ => rfl)) (pv 2)) (pe_op op_mod (pv 2) (pe_callB call_len_seq (by rfl) T.b_len (by decide +kernel) (pa_cons (pv 1) pa_nil))))))), ?_⟩
    refine q_when (et_test (ev_kname .mi rfl hp)) (fun z H1 e1 => ?_) (fun z H1 e1 => ?_)
    · have z := of_decide_eq_true z
      subst z
      obtain ⟨x1, x2⟩ : 1 ≤ ab x ∧ ab x ≤ n := hx
      exact s_ret (ev_op (ev_op (ev_var rfl) (ev_op (ev_abs (ev_var rfl)) ev_c rv_I0) (rv_ix (.inl (sq_of (e1 _ _ ho))) (by omega) (by omega))) (ev_sg (ev_var rfl)) (rv_I (.inr (sg_small x)))) fun H2 e2 => k H2 (e1.trans e2)
    · have z := of_decide_eq_false z
      have hm : kn.m = false := by cases kn <;> first | rfl | exact absurd rfl z
      unfold plOk at hx
      rw [if_neg z] at hx
      have ho1 : Sq K H1 a (o.map V.int) := .inl (sq_of (e1 _ _ ho))
      have em : x % (((o.map V.int).length : Nat) : Int) = x := by
        rw [List.length_map]
        exact Int.emod_eq_of_lt hx.1 (by omega)
      have hpos : (0 : Int) < (((o.map V.int).length : Nat) : Int) := by rw [List.length_map]; omega
      have ev1 : Ev (tOp (rI (fun _ j => 0 < j) fun i j => .int (i % j)) (tVar 2) (tCB (rLenS K) (tCons (tVar 1) tNil))) (start N_item_at [.ref p, .ref a, .int x]) H1 (.int x) :=
        ev_is (ev_op (ev_var rfl) (ev_lenq (ev_var rfl) ho1) (rv_I hpos)) (congrArg V.int em)
      refine s_ret (ev_is (ev_op (ev_op (ev_op (ev_var rfl) ev1 (rv_ix ho1 (by omega) (by omega))) (ev_var rfl) rv_I0) ev1 rv_I0) ?_) fun H2 e2 => k H2 (e1.trans e2)
      unfold itm
      rw [hm]
      show V.int (gd o x.toNat + x - x) = V.int (gd o x.toNat)
      rw [Int.add_sub_cancel]
theorem ok_product_of {f : Addr} {fd : FuncData} (F : FnP K "product_of" "product_of" s_product_of f fd) (T : Tx K w mg C D) (c_item_at : Cal P w K mg base 2 "item_at" (sp_item_at K C)) : FnOk P w K mg base CX0 3 f fd ["kind", "one", "other"] (sp_product_of K C) := by
  refine fn0 F sc_product_of (fun vs H Q E h => ?_) (fun cdv A outer s H vs Q E hr h => ?_)
  · obtain ⟨v, ⟨p, a, b, kn, n, o, q, rfl, _⟩, k⟩ := h
    rfl
  · obtain ⟨v, ⟨p, a, b, kn, n, o, q, rfl, hp, ho, hq, hn, vo, vq, rfl⟩, k⟩ := h
    refine ⟨_, (pss_one (ps_ret (pe_lc (own := [("place", 3)]) (g := gName 3) (tt := tYes) (by rfl) sc_product_of.nd (pi_list (pv 2)) (blkOk_by (own := [("place", 3)]) (N := N_product_of) (sc := defScope s_product_of) (by decide +kernel)) (fun _ _ _ _ _ => pg_name (i := 3) sc_product_of.nd rfl (Or.inl rfl)) (fun _ _ _ _ _ => pts_nil) (fun _ _ _ _ _ => (pc c_item_at hr (pa_cons (pv 0) (pa_cons (pv 1) (pa_cons (pv 3) pa_nil)))))))), ?_⟩
    have lq := vq.len
    have e : (prd kn.m o q).map V.int = q.map fun x => V.int (itm kn.m o x) := by
      unfold prd
      rw [List.map_map]
      rfl
    rw [e] at k
    exact s_retL (el_map (fun x => V.int (itm kn.m o x)) (ev_var rfl) (sq_of hq) (by omega) (fun _ => rfl) fun i H1 e1 hi => ev_call (ea_cons (ev_var rfl) (ea_cons (ev_var rfl) (ea_cons (ev_var rfl) ea_nil)))
      (PV.sp fun H2 e2 => ⟨p, a, kn, n, o, i, rfl, hp.mono (e1.trans e2), (e1.trans e2) _ _ ho, vo.len, plOk_of vq hi, rfl⟩)) k
theorem fls_given {k : Kn} {n : Nat} (o : List Int) (h1 : 1 ≤ n) : given (stN k n) (crk k n o) (fun i => V.int (i : Int)) = (nI (fls k.m n o)).map V.int := by
  unfold nI
  rw [List.map_map]
  unfold given fls
  show List.map (V.int ∘ fun j : Nat => (j : Int)) _ = _
  congr 1
  cases k with
  | pl =>
    show (List.range (n - 1)).filter _ = (List.range (n - 1)).filter _
    refine List.filter_congr fun i _ => ?_
    unfold crk
    rw [if_neg (by rintro ⟨q, _⟩; cases q)]
  | mi =>
    show (List.range n).filter _ = (List.range n).filter _
    refine List.filter_congr fun i _ => ?_
    unfold crk
    rw [if_neg (by rintro ⟨q, _⟩; cases q)]
  | ri =>
    show (List.range n).filter _ = (List.range (n - 1)).filter _
    obtain ⟨m, rfl⟩ : ∃ m, n = m + 1 := ⟨n - 1, by omega⟩
    rw [List.range_succ, List.filter_append, show m + 1 - 1 = m from rfl]
    have e1 : [m].filter (crk .ri (m + 1) o) = [] := by
      rw [List.filter_cons, if_neg]
      · rfl
      · unfold crk
        rw [if_pos ⟨rfl, rfl⟩]
        exact Bool.false_ne_true
    rw [e1, List.append_nil]
    refine List.filter_congr fun i hi => ?_
    have := List.mem_range.mp hi
    unfold crk
    rw [if_neg (by rintro ⟨_, q⟩; omega)]
theorem stN_int (k : Kn) {n : Nat} (h1 : 1 ≤ n) : (n : Int) - b2z (decide (k = .pl)) = (stN k n : Nat) := by
  cases k
  · simp [b2z, stN]
    omega
  · simp [b2z, stN]
  · simp [b2z, stN]
theorem ok_falls_of {f : Addr} {fd : FuncData} (F : FnP K "falls_of" "falls_of" s_falls_of f fd) (T : Tx K w mg C D) (m_steps : Met P w K mg base 1 C "steps" (sp_K_steps K C)) (c_is_crossed : Cal P w K mg base 2 "is_crossed" (sp_is_crossed K C)) : FnOk P w K mg base CX0 3 f fd ["kind", "order"] (sp_falls_of K C) := by
  refine fn0 F sc_falls_of (fun vs H Q E h => ?_) (fun cdv A outer s H vs Q E hr h => ?_)
  · obtain ⟨v, ⟨p, a, kn, n, o, rfl, _⟩, k⟩ := h
    rfl
  · obtain ⟨v, ⟨p, a, kn, n, o, rfl, hp, ho, h1, h7, vo, rfl⟩, k⟩ := h
    refine ⟨_, (pss_one (ps_ret (pe_lc (own := [("step", 2)]) (g := gName 2) (by rfl) sc_falls_of.nd (pi_range1 rfl T.b_range (pa_cons (pm0 m_steps hr (pv 0)) pa_nil)) (blkOk_by (own := [("step", 2)]) (N := N_falls_of) (sc := defScope s_falls_of) (by decide +kernel)) (fun _ _ _ _ _ => pg_name (i := 2) sc_falls_of.nd rfl (Or.inl rfl)) (fun _ _ _ _ _ => (pts_one (pt_val (pc c_is_crossed hr (pa_cons (pv 0) (pa_cons (pv 1) (pa_cons (pv 2) pa_nil))))))) (fun _ _ _ _ _ => (pv 2))))), ?_⟩
    rw [← fls_given o h1] at k
    have hst : stN kn n ≤ 7 := by unfold stN; split <;> omega
    have e := el_lcR1 (σ := start N_falls_of [.ref p, .ref a]) (H := H) (ta := tCons (tMeth C "steps" (sp_K_steps K C) [] E0 (tVar 0) tNil) tNil) (j := 2) (vs := [2]) (n := ((stN kn n : Nat) : Int)) (t := tB (tCall (sp_is_crossed K C) [] E0 (tCons (tVar 0) (tCons (tVar 1) (tCons (tVar 2) tNil))))) (te := tVar 2)
      (crk kn n o) (fun i => V.int (i : Int)) (ea_cons (ev_is (ev_m0 (ev_var rfl) hp (PV.sp fun H1 e => ⟨p, kn, n, rfl, hp.mono e, rfl⟩)) (congrArg V.int (stN_int kn h1))) ea_nil) ⟨by omega, by omega⟩ (fun _ => rfl)
      (fun i H1 e1 hi => et_B (ev_call (ea_cons (ev_var rfl) (ea_cons (ev_var rfl) (ea_cons (ev_var rfl) ea_nil))) (PV.sp fun H2 e2 => ⟨p, a, kn, n, i, o, rfl, hp.mono (e1.trans e2), .inl (sq_of ((e1.trans e2) _ _ ho)), vo.len, by omega, vd_ls vo, rfl⟩)))
      (fun i H1 e1 hi _ => ev_var rfl)
    rw [Int.toNat_natCast] at e
    exact s_retL e k
theorem ring_cb {x y : Int} {n : Nat} (hn : n ≤ 7) (hx : 0 ≤ x ∧ x < n) (hy : 0 ≤ y ∧ y < n) : ab ((y - x) / (n : Int)) = cb false x y := by
  have h : n = 0 ∨ n = 1 ∨ n = 2 ∨ n = 3 ∨ n = 4 ∨ n = 5 ∨ n = 6 ∨ n = 7 := by omega
  by_cases hl : y < x
  · have e : (y - x) / (n : Int) = -1 := by
      rcases h with rfl | rfl | rfl | rfl | rfl | rfl | rfl | rfl <;> omega
    rw [e]
    unfold cb b2z
    rw [decide_eq_true hl]
    rfl
  · have e : (y - x) / (n : Int) = 0 := by
      rcases h with rfl | rfl | rfl | rfl | rfl | rfl | rfl | rfl <;> omega
    rw [e]
    unfold cb b2z
    rw [decide_eq_false hl]
    rfl
theorem ok_crossings_between {f : Addr} {fd : FuncData} (F : FnP K "crossings_between" "crossings_between" s_crossings_between f fd) (T : Tx K w mg C D) (m_name : Met P w K mg base 1 C "name" (sp_K_name K C)) : FnOk P w K mg base CX0 2 f fd ["kind", "size", "low", "high"] (sp_crossings_between K C) := by
  refine fn0 F sc_crossings_between (fun vs H Q E h => ?_) (fun cdv A outer s H vs Q E hr h => ?_)
  · obtain ⟨v, ⟨p, kn, n, x, y, rfl, _⟩, k⟩ := h
    rfl
  · obtain ⟨v, ⟨p, kn, n, x, y, rfl, hp, hn, hri, rfl⟩, k⟩ := h
    refine ⟨_, (pss_cons (ps_if (pt_cmpR op_eq (pm0 m_name hr (pv 0)) pe_str (nomark _)) (pss_one (ps_ret (pe_callB call_abs (by rfl) T.b_abs (by decide +kernel) (pa_cons (pe_op op_fdiv (pe_op op_sub (pv 3) (pv 2)) (pv 1)) pa_nil)))) pss_nil)
      (pss_one (ps_ret (pe_op op_add (pe_callTy call_int1 (by rfl) T.b_int (by decide +kernel) (pa_cons (pe_cmpR op_gt (pv 2) (pv 3) (nomark _)) pa_nil)) (pe_callTy call_int1 (by rfl) T.b_int (by decide +kernel) (pa_cons (pe_and (pe_cmpR op_eq (pm0 m_name hr (pv 0)) pe_str (nomark _)) (pe_one (pe_cmpR op_lt (pe_op op_add (pv 2) (pv 3)) pe_int (nomark _)))) pa_nil)))))), ?_⟩
    refine q_when (et_test (ev_kname .ri rfl hp)) (fun z H1 e1 => ?_) (fun z H1 e1 => ?_)
    · have z := of_decide_eq_true z
      subst z
      obtain ⟨x0, xn, y0, yn⟩ := hri rfl
      refine s_ret (ev_is (ev_abs (ev_op (ev_op (ev_var rfl) (ev_var rfl) rv_I0) (ev_var rfl) (rv_I ⟨by omega, by omega⟩))) ?_) fun H2 e2 => k H2 (e1.trans e2)
      exact congrArg V.int (ring_cb hn ⟨x0, xn⟩ ⟨y0, yn⟩)
    · refine s_ret (ev_is (ev_op (ev_intB (ev_op (ev_var rfl) (ev_var rfl) rv_I0)) (ev_intB (ev_andV (ev_kname .mi rfl (hp.mono e1)) fun _ => ev_op (ev_op (ev_var rfl) (ev_var rfl) rv_I0) ev_c rv_I0)) rv_I0) ?_) fun H2 e2 => k H2 (e1.trans e2)
      unfold cb
      cases kn <;> rfl
theorem mem_drop {o : List Int} {i : Nat} {x : Int} (h : x ∈ o.drop i) : x ∈ o := List.mem_of_mem_drop h
theorem ok_crossings_of {f : Addr} {fd : FuncData} (F : FnP K "crossings_of" "crossings_of" s_crossings_of f fd) (T : Tx K w mg C D) (c_crossings_between : Cal P w K mg base 2 "crossings_between" (sp_crossings_between K C)) (m_name : Met P w K mg base 1 C "name" (sp_K_name K C)) : FnOk P w K mg base CX0 3 f fd ["kind", "order"] (sp_crossings_of K C) := by
  refine fn0 F sc_crossings_of (fun vs H Q E h => ?_) (fun cdv A outer s H vs Q E hr h => ?_)
  · obtain ⟨v, ⟨p, a, kn, n, o, rfl, _⟩, k⟩ := h
    rfl
  · obtain ⟨v, ⟨p, a, kn, n, o, rfl, hp, ho, h7, vo, rfl⟩, k⟩ := h
    refine ⟨_, (pss_cons (ps_set (i := 2) sc_crossings_of.nd rfl (Or.inl rfl) pe_int)
      (pss_cons (ps_for PassesOwn.never rfl (pi_enum (by rfl) T.b_enumerate (pa_cons (pv 1) pa_nil)) (pg_tup rfl (pgs_cons (pg_name (i := 3) sc_crossings_of.nd rfl (Or.inl rfl)) (pgs_cons (pg_name (i := 4) sc_crossings_of.nd rfl (Or.inl rfl)) pgs_nil)))
      (pss_cons (ps_for PassesOwn.never rfl (pi_list (pe_slice sl_list (pv 1) (po_some (pe_op op_add (pv 3) pe_int)) po_none)) (pg_name (i := 5) sc_crossings_of.nd rfl (Or.inl rfl))
      (pss_one (ps_set (i := 2) sc_crossings_of.nd rfl (Or.inl rfl) (pe_op op_add (pv 2) (pc c_crossings_between hr (pa_cons (pv 0) (pa_cons (pe_callB call_len_seq (by rfl) T.b_len (by decide +kernel) (pa_cons (pv 1) pa_nil)) (pa_cons (pv 4) (pa_cons (pv 5) pa_nil)))))))))
      (pss_one (ps_set (i := 2) sc_crossings_of.nd rfl (Or.inl rfl) (pe_op op_add (pv 2) (pe_callTy call_int1 (by rfl) T.b_int (by decide +kernel) (pa_cons (pe_and (pe_cmpR op_eq (pm0 m_name hr (pv 0)) pe_str (nomark _)) (pe_one (pe_cmpR op_lt (pv 4) pe_int (nomark _)))) pa_nil)))))))
      (pss_one (ps_ret (pv 2))))), ?_⟩
    have lo := vo.len
    refine q_asg ev_c fun H1 e1 => ?_
    refine q_forE (xs := o.map V.int) (ea_cons (ev_var rfl) ea_nil) (sq_of (e1 _ _ ho)) (fun i σ' H' => ∃ (s : Int) (x3 x4 x5 : Option V), σ' = [some (.ref p), some (.ref a), some (.int s), x3, x4, x5] ∧ Ex H H' ∧ crs kn.m (o.drop i) s = crs kn.m o 0)
      (fun H2 e2 => ⟨0, none, none, none, rfl, e1.trans e2, rfl⟩) (fun i σ' H' _ ⟨_, _, _, _, _, e, _⟩ => sq_of (e _ _ ho)) ?_ ?_
    · rintro i x σ' H' H2 hi ⟨s, x3, x4, x5, rfl, e, hs⟩ e2
      obtain ⟨hil, rfl, hm⟩ := get_int hi
      have e02 := e.trans e2
      refine q_forNLn (xs := (o.drop (i + 1)).map V.int) (by
          rw [List.map_drop, ← cut_drop]
          exact el_sl (ev_var rfl) (eo_some (ev_is (ev_op (ev_var rfl) ev_c rv_I0) (by rw [Int.natCast_add]; rfl))) eo_none (sq_of (e02 _ _ ho)))
        (fun l i' σ'' H'' => ∃ (s' : Int) (y5 : Option V), σ'' = [some (.ref p), some (.ref a), some (.int s'), some (.int (i : Int)), some (.int (gd o i)), y5] ∧ Ex H H'' ∧ H'' l = some (.lst ((o.drop (i + 1)).map V.int)) ∧ crIn kn.m (gd o i) ((o.drop (i + 1)).drop i') s' = crIn kn.m (gd o i) (o.drop (i + 1)) s)
        (fun l H3 _ e3 h3 => ⟨s, _, rfl, e02.trans e3, h3, rfl⟩) (fun l i' σ'' H'' _ ⟨_, _, _, _, h, _⟩ => sq_of h) ?_ ?_
      · rintro l i' y σ'' H'' hi' ⟨s', y5, rfl, e3, h3, hs'⟩
        obtain ⟨hil', rfl, hm'⟩ := get_int hi'
        rw [drop_gd hil'] at hs'
        have ho3 := e3 _ _ ho
        refine s_asg (ev_op (ev_var rfl) (ev_call (ea_cons (ev_var rfl) (ea_cons (ev_lenq (ev_var rfl) (.inl (sq_of ho3))) (ea_cons (ev_var rfl) (ea_cons (ev_var rfl) ea_nil)))) (PV.sp fun H4 e4 => ⟨p, kn, n, gd o i, gd (o.drop (i + 1)) i', ?_, hp.mono (e3.trans e4), h7, ?_, rfl⟩)) rv_I0) fun H4 e4 => ⟨s' + cb kn.m (gd o i) (gd (o.drop (i + 1)) i'), _, rfl, e3.trans e4, e4 _ _ h3, hs'⟩
        · rw [List.length_map, lo]
          rfl
        · rintro rfl
          have m1 := Vd.memP vo hm
          have m2 := Vd.memP vo (mem_drop hm')
          exact ⟨m1.1, m1.2, m2.1, m2.2⟩
      · rintro l σ'' H'' ⟨s', y5, rfl, e3, h3, hs'⟩
        rw [List.length_map, List.drop_length] at hs'
        have hs2 : s' = crIn kn.m (gd o i) (o.drop (i + 1)) s := hs'
        rw [drop_gd hil] at hs
        refine s_asg (ev_op (ev_var rfl) (ev_intB (ev_andV (ev_kname .mi rfl (hp.mono e3)) fun _ => ev_op (ev_var rfl) ev_c rv_I0)) rv_I0) fun H4 e4 => ⟨s' + b2z (decide (kn = .mi) && decide (gd o i < 0)), _, _, _, rfl, e3.trans e4, ?_⟩
        rw [← hs, hs2]
        cases kn <;> rfl
    · rintro σ' H' ⟨s, x3, x4, x5, rfl, e, hs⟩
      rw [List.length_map, List.drop_length] at hs
      have hs2 : s = crs kn.m o 0 := hs
      subst hs2
      exact s_ret (ev_var rfl) fun H4 e4 => k H4 (e.trans e4)
end
end SL

set_option Elab.async false
set_option linter.all false
set_option maxRecDepth 100000
set_option maxHeartbeats 4000000
namespace SL
open PySem PySem.Spec PyProof.Rows L2 Evl
abbrev s_is_order_list : Stmt := tp 22
abbrev N_is_order_list : List Str := ["kind", "value", "size", "item"]
theorem sc_is_order_list : FnScope N_is_order_list ["kind", "value"] (defScope s_is_order_list) := ⟨rfl, rfl, rfl, by decide +kernel, rfl, by decide +kernel, by decide +kernel⟩
abbrev s_is_let_order : Stmt := tp 23
abbrev N_is_let_order : List Str := ["kind", "value"]
theorem sc_is_let_order : FnScope N_is_let_order ["kind", "value"] (defScope s_is_let_order) := ⟨rfl, rfl, rfl, by decide +kernel, rfl, by decide +kernel, by decide +kernel⟩
abbrev s_check_order : Stmt := tp 24
abbrev N_check_order : List Str := ["kind", "order"]
theorem sc_check_order : FnScope N_check_order ["kind", "order"] (defScope s_check_order) := ⟨rfl, rfl, rfl, by decide +kernel, rfl, by decide +kernel, by decide +kernel⟩
abbrev s_check_two_orders : Stmt := tp 32
abbrev N_check_two_orders : List Str := ["kind", "one", "other"]
theorem sc_check_two_orders : FnScope N_check_two_orders ["kind", "one", "other"] (defScope s_check_two_orders) := ⟨rfl, rfl, rfl, by decide +kernel, rfl, by decide +kernel, by decide +kernel⟩
abbrev s_check_one : Stmt := tp 38
abbrev N_check_one : List Str := ["kind", "order"]
theorem sc_check_one : FnScope N_check_one ["kind", "order"] (defScope s_check_one) := ⟨rfl, rfl, rfl, by decide +kernel, rfl, by decide +kernel, by decide +kernel⟩
abbrev s_check_two : Stmt := tp 39
abbrev N_check_two : List Str := ["kind", "one", "other"]
theorem sc_check_two : FnScope N_check_two ["kind", "one", "other"] (defScope s_check_two) := ⟨rfl, rfl, rfl, by decide +kernel, rfl, by decide +kernel, by decide +kernel⟩
abbrev s_check_orders : Stmt := tp 48
abbrev N_check_orders : List Str := ["kind", "orders", "order"]
theorem sc_check_orders : FnScope N_check_orders ["kind", "orders"] (defScope s_check_orders) := ⟨rfl, rfl, rfl, by decide +kernel, rfl, by decide +kernel, by decide +kernel⟩
def sp_is_order_list (K : PySem.W.Frag) (C : Addr) : Sp := PV fun vs H v => ∃ (p a : Addr) (k : Kn) (n : Nat) (o : List Int), vs = [.ref p, .ref a] ∧ KindAt C H p k n ∧ Ls H a o ∧ 1 ≤ n ∧ n ≤ 7 ∧ Vd k.m n o ∧ v = .bl true
/-- an order that is handed in -/
def OrdAt (C : Addr) (H : Hp) (p a : Addr) (k : Kn) (n : Nat) (o : List Int) : Prop := KindAt C H p k n ∧ Ls H a o ∧ 1 ≤ n ∧ n ≤ top k.m ∧ Vd k.m n o
theorem OrdAt.mono {C : Addr} {H H' : Hp} {p a : Addr} {k : Kn} {n : Nat} {o : List Int} (h : OrdAt C H p a k n o) (e : Ex H H') : OrdAt C H' p a k n o := ⟨h.1.mono e, e _ _ h.2.1, h.2.2⟩
theorem top7 {k : Kn} {n : Nat} (h : n ≤ top k.m) : n ≤ 7 := by
  cases k with
  | mi =>
    have : n ≤ 3 := h
    omega
  | _ =>
    have : n ≤ 6 := h
    omega
def sp_is_let_order (K : PySem.W.Frag) (C : Addr) : Sp := PV fun vs H v => ∃ (p a : Addr) (k : Kn) (n : Nat) (o : List Int), vs = [.ref p, .ref a] ∧ OrdAt C H p a k n o ∧ v = .bl true
def sp_check_order (K : PySem.W.Frag) (C : Addr) : Sp := PV fun vs H v => ∃ (p a : Addr) (k : Kn) (n : Nat) (o : List Int), vs = [.ref p, .ref a] ∧ OrdAt C H p a k n o ∧ v = .non
def sp_check_one (K : PySem.W.Frag) (C : Addr) : Sp := sp_check_order K C
def sp_check_two_orders (K : PySem.W.Frag) (C : Addr) : Sp := PV fun vs H v => ∃ (p a b : Addr) (k : Kn) (n : Nat) (o q : List Int), vs = [.ref p, .ref a, .ref b] ∧ OrdAt C H p a k n o ∧ OrdAt C H p b k n q ∧ v = .non
def sp_check_two (K : PySem.W.Frag) (C : Addr) : Sp := sp_check_two_orders K C
/-- a list of orders -/
def sp_check_orders (K : PySem.W.Frag) (C : Addr) : Sp := PV fun vs H v => ∃ (p a : Addr) (k : Kn) (n : Nat) (as : List Addr), vs = [.ref p, .ref a] ∧ KindAt C H p k n ∧ H a = some (.lst (as.map V.ref)) ∧ as.length ≤ 100 ∧ (∀ b ∈ as, ∃ o, OrdAt C H p b k n o) ∧ v = .non
section
variable {P : Program} {w : World} {K : PySem.W.Frag} {mg : Str → Option Value} {base : Heap} {C D : Addr}
theorem ok_opposite_of {f : Addr} {fd : FuncData} (F : FnP K "opposite_of" "opposite_of" s_opposite_of f fd) (T : Tx K w mg C D) (m_name : Met P w K mg base 1 C "name" (sp_K_name K C)) : FnOk P w K mg base CX0 2 f fd ["kind", "order"] (sp_opposite_of K C) := by
  refine fn0 F sc_opposite_of (fun vs H Q E h => ?_) (fun cdv A outer s H vs Q E hr h => ?_)
  · obtain ⟨v, ⟨p, a, kn, n, o, rfl, _⟩, k⟩ := h
    rfl
  · obtain ⟨v, ⟨p, a, kn, n, o, rfl, hp, ho, h7, vo, rfl⟩, k⟩ := h
    refine ⟨_, (pss_cons (ps_set (i := 2) sc_opposite_of.nd rfl (Or.inl rfl) (pe_op op_rep (pe_lst (pa_cons pe_int pa_nil)) (pe_callB call_len_seq (by rfl) T.b_len (by decide +kernel) (pa_cons (pv 1) pa_nil))))
      (pss_cons (ps_for PassesOwn.never rfl (pi_enum (by rfl) T.b_enumerate (pa_cons (pv 1) pa_nil)) (pg_tup rfl (pgs_cons (pg_name (i := 3) sc_opposite_of.nd rfl (Or.inl rfl)) (pgs_cons (pg_name (i := 4) sc_opposite_of.nd rfl (Or.inl rfl)) pgs_nil)))
      (pss_one (ps_if (pt_cmpR op_eq (pm0 m_name hr (pv 0)) pe_str (nomark _)) (pss_one (ps_asg (pe_op op_mul (pe_op op_add (pv 3) pe_int) (pe_ifExp (pt_cmpR op_gt (pv 4) pe_int (nomark _)) pe_int (pe_un un_neg pe_int))) (pg_sub (pv 2) (pe_op op_sub (pe_callB call_abs (by rfl) T.b_abs (by decide +kernel) (pa_cons (pv 4) pa_nil)) pe_int) set_list))) (pss_one (ps_asg (pe_op op_sub (pv 3) (pe_op op_sub (pv 4) (pe_op op_mod (pv 4) (pe_callB call_len_seq (by rfl) T.b_len (by decide +kernel) (pa_cons (pv 1) pa_nil))))) (pg_sub (pv 2) (pe_op op_mod (pv 4) (pe_callB call_len_seq (by rfl) T.b_len (by decide +kernel) (pa_cons (pv 1) pa_nil))) set_list))))))
      (pss_one (ps_ret (pv 2))))), ?_⟩
    have lo := vo.len
    have e0 : (List.replicate (((o.map V.int).length)) [V.int 0]).flatten = (List.replicate n (0 : Int)).map V.int := by
      rw [rep_one, List.length_map, lo, List.map_replicate]
    refine q_asgL (el_rep (k := (o.map V.int).length) (el_lst (ea_cons ev_c ea_nil) (by decide)) (fun H1 e1 => ev_lenq (ev_var rfl) (.inl (sq_of (e1 _ _ ho)))) (by rw [List.length_map]; omega) (by decide)) fun l H1 hl0 e1 h1 => ?_
    rw [e0] at h1
    refine q_forE (xs := o.map V.int) (ea_cons (ev_var rfl) ea_nil) (sq_of (e1 _ _ ho)) (fun i σ' H' => ∃ (acc : List Int) (x3 x4 : Option V), σ' = [some (.ref p), some (.ref a), some (.ref l), x3, x4] ∧ Ex H H' ∧ Ls H' l acc ∧ acc.length = n ∧ opGo kn.m (o.drop i) i acc = opp kn.m n o)
      (fun H2 e2 => ⟨List.replicate n 0, none, none, rfl, e1.trans e2, e2 _ _ h1, List.length_replicate, rfl⟩) (fun i σ' H' _ ⟨_, _, _, _, e, _⟩ => sq_of (e _ _ ho)) ?_ ?_
    · rintro i x σ' H' H2 hi ⟨acc, x3, x4, rfl, e, hl, la, hg⟩ e2
      obtain ⟨hil, rfl, hm⟩ := get_int hi
      have e02 := e.trans e2
      rw [drop_gd hil] at hg
      have hp2 := hp.mono e02
      have ho2 : Sq K H2 a (o.map V.int) := .inl (sq_of (e02 _ _ ho))
      refine s_if (et_test (ev_kname .mi rfl hp2)) (fun z H3 e3 => ?_) (fun z H3 e3 => ?_)
      · have z := of_decide_eq_true z
        subst z
        have mm := Vd.memM vo hm
        refine s_setL (j := ix true (gd o i)) ((e2.trans e3) _ _ hl) (ev_op (ev_op (ev_var rfl) ev_c rv_I0) (ev_sg (ev_var rfl)) (rv_I (.inr (sg_small _)))) (ev_var rfl) (ev_is (ev_op (ev_abs (ev_var rfl)) ev_c rv_I0) ?_) ?_ fun H4 e4 => ⟨acc.set (ix true (gd o i)) (vl true i (gd o i)), _, _, rfl, Exl.ex (e.trans (e2.trans (e3.trans e4))) hl0 Exl.upd, ?_, by rw [List.length_set]; exact la, hg⟩
        · show V.int (ab (gd o i) - 1) = V.int (((ab (gd o i) - 1).toNat : Nat) : Int)
          rw [Int.toNat_of_nonneg (by omega)]
        · rw [List.length_map]
          show (ab (gd o i) - 1).toNat < acc.length
          omega
        · exact upd_same.trans (by rw [← set_map]; rfl)
      · have z := of_decide_eq_false z
        have hm0 : kn.m = false := by cases kn <;> first | rfl | exact absurd rfl z
        rw [hm0] at vo hg
        have mm := Vd.memP vo hm
        have ho3 := ho2.mono e3
        have em : (gd o i) % (((o.map V.int).length : Nat) : Int) = gd o i := by
          rw [List.length_map]
          exact Int.emod_eq_of_lt mm.1 (by omega)
        have hpos : (0 : Int) < (((o.map V.int).length : Nat) : Int) := by rw [List.length_map]; omega
        have em2 : ∀ (σ : L2.St), σ[4]? = some (some (.int (gd o i))) → σ[1]? = some (some (.ref a)) → Ev (tOp (rI (fun _ j => 0 < j) fun i j => .int (i % j)) (tVar 4) (tCB (rLenS K) (tCons (tVar 1) tNil))) σ H3 (.int (gd o i)) := fun σ q1 q2 =>
          ev_is (ev_op (ev_var q1) (ev_lenq (ev_var q2) ho3) (rv_I hpos)) (congrArg V.int em)
        refine s_setL (j := ix false (gd o i)) ((e2.trans e3) _ _ hl) (ev_op (ev_var rfl) (ev_op (ev_var rfl) (em2 _ rfl rfl) rv_I0) rv_I0) (ev_var rfl) (ev_is (em2 _ rfl rfl) ?_) ?_ fun H4 e4 => ⟨acc.set (ix false (gd o i)) (vl false i (gd o i)), _, _, rfl, Exl.ex (e.trans (e2.trans (e3.trans e4))) hl0 Exl.upd, ?_, by rw [List.length_set]; exact la, by rw [hm0]; exact hg⟩
        · show V.int (gd o i) = V.int (((gd o i).toNat : Nat) : Int)
          rw [Int.toNat_of_nonneg mm.1]
        · rw [List.length_map]
          show (gd o i).toNat < acc.length
          omega
        · refine upd_same.trans ?_
          rw [← set_map, Int.sub_self, Int.sub_zero]
          rfl
    · rintro σ' H' ⟨acc, x3, x4, rfl, e, hl, la, hg⟩
      rw [List.length_map, List.drop_length] at hg
      have hg2 : acc = opp kn.m n o := hg
      subst hg2
      exact s_ret (ev_var rfl) fun H4 e4 => k l H4 hl0 (e.trans e4) (e4 _ _ hl)
theorem perm_sum {a b : List Int} (h : a.Perm b) : a.sum = b.sum := by
  induction h with
  | nil => rfl
  | cons x _ ih => rw [List.sum_cons, List.sum_cons, ih]
  | swap x y l =>
    rw [List.sum_cons, List.sum_cons, List.sum_cons, List.sum_cons]
    omega
  | trans _ _ h1 h2 => rw [h1, h2]
theorem rg_sum {n : Nat} (h : n ≤ 7) : (rg 0 n).sum = (n : Int) * ((n : Int) - 1) / 2 := by
  have h : n = 0 ∨ n = 1 ∨ n = 2 ∨ n = 3 ∨ n = 4 ∨ n = 5 ∨ n = 6 ∨ n = 7 := by omega
  rcases h with rfl | rfl | rfl | rfl | rfl | rfl | rfl | rfl <;> decide +kernel
theorem rgV0 (n : Nat) : rgV 0 (n : Int) = (rg 0 n).map V.int := by
  have := rgV_rg 0 n
  rw [show ((0 : Nat) : Int) = 0 from rfl, Int.zero_add] at this
  exact this
theorem rgV1 (n : Nat) : rgV 1 ((n : Int) + 1) = (rg 1 n).map V.int := by
  have := rgV_rg 1 n
  rw [Int.add_comm (n : Int) 1]
  exact this
theorem ok_is_order_list {f : Addr} {fd : FuncData} (F : FnP K "is_order_list" "is_order_list" s_is_order_list f fd) (T : Tx K w mg C D) (m_size : Met P w K mg base 1 C "size" (sp_K_size K C)) (c_is_whole : Cal P w K mg base 1 "is_whole" (sp_is_whole K C)) (m_name : Met P w K mg base 1 C "name" (sp_K_name K C)) : FnOk P w K mg base CX0 2 f fd ["kind", "value"] (sp_is_order_list K C) := by
  refine fn0 F sc_is_order_list (fun vs H Q E h => ?_) (fun cdv A outer s H vs Q E hr h => ?_)
  · obtain ⟨v, ⟨p, a, kn, n, o, rfl, _⟩, k⟩ := h
    rfl
  · obtain ⟨v, ⟨p, a, kn, n, o, rfl, hp, ho, h1, h7, vo, rfl⟩, k⟩ := h
    refine ⟨_, (pss_cons (ps_set (i := 2) sc_is_order_list.nd rfl (Or.inr rfl) (pm0 m_size hr (pv 0)))
      (pss_cons (ps_if (PW.pt (pw_or (pt_not (pt_val (pe_callB call_isi (by rfl) T.b_isinstance (by decide +kernel) (pa_cons (pv 1) (pa_cons (pe_bltn (v := .ty "list") (by rfl) T.b_list (by decide +kernel) rfl) pa_nil))))) (pw_or (pt_cmpR op_ne (pe_callB call_len_seq (by rfl) T.b_len (by decide +kernel) (pa_cons (pv 1) pa_nil)) (pv 2) (nomark _)) (pw_or1 (pt_cmpR (op_neD hr.units) (pe_lc (own := [("item", 3)]) (g := gName 3) (by rfl) sc_is_order_list.nd (pi_list (pv 1)) (blkOk_by (own := [("item", 3)]) (N := N_is_order_list) (sc := defScope s_is_order_list) (by decide +kernel)) (fun _ _ _ _ _ => pg_name (i := 3) sc_is_order_list.nd rfl (Or.inl rfl)) (fun _ _ _ _ _ => (pts_one (pt_not (pt_val (pc c_is_whole hr (pa_cons (pv 3) pa_nil)))))) (fun _ _ _ _ _ => (pv 3))) (pe_lst pa_nil) (nomark _)))))) (pss_one (ps_ret pe_bl)) pss_nil)
      (pss_cons (ps_if (pt_cmpR op_eq (pm0 m_name hr (pv 0)) pe_str (nomark _)) (pss_one (ps_ret (pe_cmpR (op_eqD hr.units) (pe_callB (cr_sortedK (K := K) rfl) (by rfl) T.b_sorted (by decide +kernel) (pa_cons (pv 1) pa_nil)) (pe_listRg rfl (by rfl) T.b_list (prg_1 (by rfl) T.b_range (pv 2))) (nomark _)))) pss_nil)
      (pss_cons (ps_if (pt_cmpR op_eq (pm0 m_name hr (pv 0)) pe_str (nomark _)) (pss_one (ps_ret (pe_cmpR (op_eqD hr.units) (pe_callB (cr_sortedK (K := K) rfl) (by rfl) T.b_sorted (by decide +kernel) (pa_cons (pe_lc (own := [("item", 3)]) (g := gName 3) (tt := tYes) (by rfl) sc_is_order_list.nd (pi_list (pv 1)) (blkOk_by (own := [("item", 3)]) (N := N_is_order_list) (sc := defScope s_is_order_list) (by decide +kernel)) (fun _ _ _ _ _ => pg_name (i := 3) sc_is_order_list.nd rfl (Or.inl rfl)) (fun _ _ _ _ _ => pts_nil) (fun _ _ _ _ _ => (pe_callB call_abs (by rfl) T.b_abs (by decide +kernel) (pa_cons (pv 3) pa_nil)))) pa_nil)) (pe_listRg rfl (by rfl) T.b_list (prg_2 (by rfl) T.b_range pe_int (pe_op op_add (pv 2) pe_int))) (nomark _)))) pss_nil)
      (pss_one (ps_ret (pe_and (pe_cmpR (op_eqD hr.units) (pe_callB (cr_sortedK (K := K) rfl) (by rfl) T.b_sorted (by decide +kernel) (pa_cons (pe_lc (own := [("item", 3)]) (g := gName 3) (tt := tYes) (by rfl) sc_is_order_list.nd (pi_list (pv 1)) (blkOk_by (own := [("item", 3)]) (N := N_is_order_list) (sc := defScope s_is_order_list) (by decide +kernel)) (fun _ _ _ _ _ => pg_name (i := 3) sc_is_order_list.nd rfl (Or.inl rfl)) (fun _ _ _ _ _ => pts_nil) (fun _ _ _ _ _ => (pe_op op_mod (pv 3) (pv 2)))) pa_nil)) (pe_listRg rfl (by rfl) T.b_list (prg_1 (by rfl) T.b_range (pv 2))) (nomark _)) (pe_one (pe_cmpR op_eq (pe_callB (cr_sum rfl) (by rfl) T.b_sum (by decide +kernel) (pa_cons (pv 1) pa_nil)) (pe_op op_fdiv (pe_op op_mul (pv 2) (pe_op op_sub (pv 2) pe_int)) pe_int) (nomark _)))))))))), ?_⟩
    have lo := vo.len
    refine q_asg (ev_m0 (ev_var rfl) hp (PV.sp fun H1 e => ⟨p, kn, n, rfl, hp.mono e, rfl⟩)) fun H1 e1 => ?_
    have sq1 : SqL K H1 a (o.map V.int) := sq_of (e1 _ _ ho)
    refine q_when (b := false) (et_or (a := false) (b := false) (et_not (a := true) (et_B (ev_isi (ev_var rfl) ev_c (.ty _) (fun H2 e2 => .base (.lst ((e1.trans e2) _ _ ho))) (kit_ty (b := "list") (by decide +kernel))))) fun _ => et_or (a := false) (b := false) (et_test (ev_is (ev_op (ev_lenq (ev_var rfl) (.inl sq1)) (ev_var rfl) (rv_ne rfl)) ?_)) fun _ => et_test (ev_is (ev_neLL (o := []) (p := []) ?_ (el_lst ea_nil (by decide))) rfl)) (fun z => by cases z) fun _ H2 e2 => ?_
    · rw [List.length_map, lo, decide_eq_true rfl]
      rfl
    · have e := el_filter (K := K) (σ := (start N_is_order_list [.ref p, .ref a]).set 2 (some (.int n))) (H := H1) (tl := tVar 1) (j := 3) (vs := [3]) (t := tNot (tB (tCall (sp_is_whole K C) [] E0 (tCons (tVar 3) tNil)))) (te := tVar 3) (fun _ => false) V.int (ev_var rfl) sq1 (by omega) (fun _ => rfl)
        (fun i H2 e2 hi => et_not (a := true) (et_B (ev_call (ea_cons (ev_var rfl) ea_nil) (PV.sp fun H3 _ => ⟨i, rfl, rfl⟩)))) (fun i H2 e2 hi => ev_var rfl)
      rw [List.filter_eq_nil_iff.mpr (fun _ _ => Bool.false_ne_true)] at e
      exact e
    · have e12 := e1.trans e2
      have sq2 : SqL K H2 a (o.map V.int) := sq_of (e12 _ _ ho)
      refine q_when (et_test (ev_kname .pl rfl (hp.mono e12))) (fun z H3 e3 => ?_) (fun z H3 e3 => ?_)
      · have z := of_decide_eq_true z
        subst z
        have pm : o.Perm (rg 0 n) := vo
        refine s_ret (ev_is (ev_eqLL (o := rg 0 n) (p := rg 0 n) (el_sorted (ev_var rfl) (sq_of ((e12.trans e3) _ _ ho)) pm (rg_sorted 0 n) (by omega)) ?_) ?_) fun H4 e4 => k H4 ((e12.trans e3).trans e4)
        · rw [← rgV0]
          exact el_rg1 (ev_var rfl) (.of_le (by omega) (by omega) (by omega) (by omega))
        · rw [decide_eq_true rfl]
      · have z := of_decide_eq_false z
        refine q_when (et_test (ev_kname .mi rfl (hp.mono (e12.trans e3)))) (fun y H4 e4 => ?_) (fun y H4 e4 => ?_)
        · have y := of_decide_eq_true y
          subst y
          have pm : (o.map ab).Perm (rg 1 n) := vo
          have e14 := (e12.trans e3).trans e4
          refine s_ret (ev_is (ev_eqLL (o := rg 1 n) (p := rg 1 n) (el_sortedN (o := o.map ab) ?_ pm (rg_sorted 1 n) (by rw [List.length_map]; omega)) ?_) ?_) fun H5 e5 => k H5 (e14.trans e5)
          · rw [List.map_map]
            exact el_map (V.int ∘ ab) (ev_var rfl) (sq_of (e14 _ _ ho)) (by omega) (fun _ => rfl) fun i H5 e5 hi => ev_abs (ev_var rfl)
          · rw [← rgV1]
            exact el_rg2 ev_c (ev_op (ev_var rfl) ev_c rv_I0) (.of_le (by omega) (by omega) (by omega) (by omega))
          · rw [decide_eq_true rfl]
        · have y := of_decide_eq_false y
          have hk : kn = .ri := by cases kn <;> first | rfl | exact absurd rfl z | exact absurd rfl y
          subst hk
          have pm : o.Perm (rg 0 n) := vo
          have e14 := (e12.trans e3).trans e4
          refine s_ret (ev_is (ev_andV (a := true) (b := true) (ev_is (ev_eqLL (o := rg 0 n) (p := rg 0 n) (el_sortedN (o := o) ?_ pm (rg_sorted 0 n) (by omega)) ?_) (by rw [decide_eq_true rfl])) fun _ => ev_is (ev_op (ev_sum (ev_var rfl) (sq_of (e14 _ _ ho))) (ev_op (ev_op (ev_var rfl) (ev_op (ev_var rfl) ev_c rv_I0) (rv_I (.inl ⟨by omega, by omega⟩))) ev_c (rv_I ⟨by decide, by decide⟩)) (rv_eq rfl)) ?_) rfl) fun H5 e5 => k H5 (e14.trans e5)
          · have e := el_map (K := K) (σ := (start N_is_order_list [.ref p, .ref a]).set 2 (some (.int n))) (H := H4) (tl := tVar 1) (j := 3) (vs := [3]) (te := tOp (rI (fun _ j => 0 < j) fun i j => .int (i % j)) (tVar 3) (tVar 2)) V.int (ev_var rfl) (sq_of (e14 _ _ ho)) (by omega) (fun _ => rfl)
              (fun i H5 e5 hi => ev_is (ev_op (ev_var rfl) (ev_var rfl) (rv_I (by omega))) (by
                have mm := Vd.memP vo hi
                rw [Int.emod_eq_of_lt mm.1 mm.2]))
            exact e
          · rw [← rgV0]
            exact el_rg1 (ev_var rfl) (.of_le (by omega) (by omega) (by omega) (by omega))
          · rw [perm_sum pm, rg_sum h7, decide_eq_true rfl]
theorem ok_is_let_order {f : Addr} {fd : FuncData} (F : FnP K "is_let_order" "is_let_order" s_is_let_order f fd) (T : Tx K w mg C D) (c_is_order_list : Cal P w K mg base 2 "is_order_list" (sp_is_order_list K C)) (c_crossings_of : Cal P w K mg base 3 "crossings_of" (sp_crossings_of K C)) : FnOk P w K mg base CX0 4 f fd ["kind", "value"] (sp_is_let_order K C) := by
  refine fn0 F sc_is_let_order (fun vs H Q E h => ?_) (fun cdv A outer s H vs Q E hr h => ?_)
  · obtain ⟨v, ⟨p, a, kn, n, o, rfl, _⟩, k⟩ := h
    rfl
  · obtain ⟨v, ⟨p, a, kn, n, o, rfl, ⟨hp, ho, h1, ht, vo⟩, rfl⟩, k⟩ := h
    refine ⟨_, (pss_one (ps_ret (pe_and (pc c_is_order_list hr (pa_cons (pv 0) (pa_cons (pv 1) pa_nil))) (pe_one (pe_cmpR op_le (pc c_crossings_of hr (pa_cons (pv 0) (pa_cons (pv 1) pa_nil))) (pgi T.MOST_CROSSINGS) (nomark _)))))), ?_⟩
    refine s_ret (ev_is (ev_andV (a := true) (b := true) (ev_call (ea_cons (ev_var rfl) (ea_cons (ev_var rfl) ea_nil)) (PV.sp fun H1 e => ⟨p, a, kn, n, o, rfl, hp.mono e, e _ _ ho, h1, top7 ht, vo, rfl⟩)) fun _ =>
      ev_is (ev_op (ev_call (ea_cons (ev_var rfl) (ea_cons (ev_var rfl) ea_nil)) (PV.sp fun H1 e => ⟨p, a, kn, n, o, rfl, hp.mono e, e _ _ ho, top7 ht, vo, rfl⟩)) ev_c rv_I0) (by rw [decide_eq_true (vo.crs60 ht)])) rfl) k
theorem ok_check_order {f : Addr} {fd : FuncData} (F : FnP K "check_order" "check_order" s_check_order f fd) (T : Tx K w mg C D) (c_is_let_order : Cal P w K mg base 4 "is_let_order" (sp_is_let_order K C)) : FnOk P w K mg base CX0 5 f fd ["kind", "order"] (sp_check_order K C) := by
  refine fn0 F sc_check_order (fun vs H Q E h => ?_) (fun cdv A outer s H vs Q E hr h => ?_)
  · obtain ⟨v, ⟨p, a, kn, n, o, rfl, _⟩, k⟩ := h
    rfl
  · obtain ⟨v, ⟨p, a, kn, n, o, rfl, ho, rfl⟩, k⟩ := h
    refine ⟨_, (pss_one (ps_if (pt_not (pt_val (pc c_is_let_order hr (pa_cons (pv 0) (pa_cons (pv 1) pa_nil))))) pss_never pss_nil)), ?_⟩
    exact s_when (b := false) (et_not (a := true) (et_B (ev_call (ea_cons (ev_var rfl) (ea_cons (ev_var rfl) ea_nil)) (PV.sp fun H1 e => ⟨p, a, kn, n, o, rfl, ho.mono e, rfl⟩)))) (fun z => by cases z) fun _ H1 e => k H1 e
/-- check_kind(kind) -/
theorem ev_ck {σ : L2.St} {H : Hp} {i : Nat} {p : Addr} {kn : Kn} {n : Nat} (h : σ[i]? = some (some (.ref p))) (hp : KindAt C H p kn n) : Ev (tCall (sp_check_kind K C) [] E0 (tCons (tVar i) tNil)) σ H .non :=
  ev_call (ea_cons (ev_var h) ea_nil) (PV.sp fun H1 e => ⟨p, kn, n, rfl, hp.mono e, rfl⟩)
theorem ev_co {σ : L2.St} {H : Hp} {i j : Nat} {p a : Addr} {kn : Kn} {n : Nat} {o : List Int} (h : σ[i]? = some (some (.ref p))) (hj : σ[j]? = some (some (.ref a))) (ho : OrdAt C H p a kn n o) : Ev (tCall (sp_check_order K C) [] E0 (tCons (tVar i) (tCons (tVar j) tNil))) σ H .non :=
  ev_call (ea_cons (ev_var h) (ea_cons (ev_var hj) ea_nil)) (PV.sp fun H1 e => ⟨p, a, kn, n, o, rfl, ho.mono e, rfl⟩)
theorem ok_check_two_orders {f : Addr} {fd : FuncData} (F : FnP K "check_two_orders" "check_two_orders" s_check_two_orders f fd) (T : Tx K w mg C D) (c_check_kind : Cal P w K mg base 1 "check_kind" (sp_check_kind K C)) (c_check_order : Cal P w K mg base 5 "check_order" (sp_check_order K C)) : FnOk P w K mg base CX0 6 f fd ["kind", "one", "other"] (sp_check_two_orders K C) := by
  refine fn0 F sc_check_two_orders (fun vs H Q E h => ?_) (fun cdv A outer s H vs Q E hr h => ?_)
  · obtain ⟨v, ⟨p, a, b, kn, n, o, q, rfl, _⟩, k⟩ := h
    rfl
  · obtain ⟨v, ⟨p, a, b, kn, n, o, q, rfl, ho, hq, rfl⟩, k⟩ := h
    refine ⟨_, (pss_cons (ps_expr (pc c_check_kind hr (pa_cons (pv 0) pa_nil)))
      (pss_cons (ps_expr (pc c_check_order hr (pa_cons (pv 0) (pa_cons (pv 1) pa_nil))))
      (pss_one (ps_expr (pc c_check_order hr (pa_cons (pv 0) (pa_cons (pv 2) pa_nil))))))), ?_⟩
    exact q_drop (ev_ck rfl ho.1) fun H1 e1 => q_drop (ev_co rfl rfl (ho.mono e1)) fun H2 e2 => s_drop (ev_co rfl rfl (hq.mono (e1.trans e2))) fun H3 e3 => k H3 ((e1.trans e2).trans e3)
theorem ok_check_one {f : Addr} {fd : FuncData} (F : FnP K "check_one" "check_one" s_check_one f fd) (T : Tx K w mg C D) (c_check_kind : Cal P w K mg base 1 "check_kind" (sp_check_kind K C)) (c_check_order : Cal P w K mg base 5 "check_order" (sp_check_order K C)) : FnOk P w K mg base CX0 6 f fd ["kind", "order"] (sp_check_one K C) := by
  refine fn0 F sc_check_one (fun vs H Q E h => ?_) (fun cdv A outer s H vs Q E hr h => ?_)
  · obtain ⟨v, ⟨p, a, kn, n, o, rfl, _⟩, k⟩ := h
    rfl
  · obtain ⟨v, ⟨p, a, kn, n, o, rfl, ho, rfl⟩, k⟩ := h
    refine ⟨_, (pss_cons (ps_expr (pc c_check_kind hr (pa_cons (pv 0) pa_nil)))
      (pss_one (ps_expr (pc c_check_order hr (pa_cons (pv 0) (pa_cons (pv 1) pa_nil)))))), ?_⟩
    exact q_drop (ev_ck rfl ho.1) fun H1 e1 => s_drop (ev_co rfl rfl (ho.mono e1)) fun H2 e2 => k H2 (e1.trans e2)
theorem ev_c1 {σ : L2.St} {H : Hp} {i j : Nat} {p a : Addr} {kn : Kn} {n : Nat} {o : List Int} (h : σ[i]? = some (some (.ref p))) (hj : σ[j]? = some (some (.ref a))) (ho : OrdAt C H p a kn n o) : Ev (tCall (sp_check_one K C) [] E0 (tCons (tVar i) (tCons (tVar j) tNil))) σ H .non :=
  ev_call (ea_cons (ev_var h) (ea_cons (ev_var hj) ea_nil)) (PV.sp fun H1 e => ⟨p, a, kn, n, o, rfl, ho.mono e, rfl⟩)
theorem ok_check_two {f : Addr} {fd : FuncData} (F : FnP K "check_two" "check_two" s_check_two f fd) (T : Tx K w mg C D) (c_check_one : Cal P w K mg base 6 "check_one" (sp_check_one K C)) (c_check_order : Cal P w K mg base 5 "check_order" (sp_check_order K C)) : FnOk P w K mg base CX0 7 f fd ["kind", "one", "other"] (sp_check_two K C) := by
  refine fn0 F sc_check_two (fun vs H Q E h => ?_) (fun cdv A outer s H vs Q E hr h => ?_)
  · obtain ⟨v, ⟨p, a, b, kn, n, o, q, rfl, _⟩, k⟩ := h
    rfl
  · obtain ⟨v, ⟨p, a, b, kn, n, o, q, rfl, ho, hq, rfl⟩, k⟩ := h
    refine ⟨_, (pss_cons (ps_expr (pc c_check_one hr (pa_cons (pv 0) (pa_cons (pv 1) pa_nil))))
      (pss_one (ps_expr (pc c_check_order hr (pa_cons (pv 0) (pa_cons (pv 2) pa_nil)))))), ?_⟩
    exact q_drop (ev_c1 rfl rfl ho) fun H1 e1 => s_drop (ev_co rfl rfl (hq.mono e1)) fun H2 e2 => k H2 (e1.trans e2)
theorem ok_check_orders {f : Addr} {fd : FuncData} (F : FnP K "check_orders" "check_orders" s_check_orders f fd) (T : Tx K w mg C D) (c_check_kind : Cal P w K mg base 1 "check_kind" (sp_check_kind K C)) (c_check_order : Cal P w K mg base 5 "check_order" (sp_check_order K C)) : FnOk P w K mg base CX0 6 f fd ["kind", "orders"] (sp_check_orders K C) := by
  refine fn0 F sc_check_orders (fun vs H Q E h => ?_) (fun cdv A outer s H vs Q E hr h => ?_)
  · obtain ⟨v, ⟨p, a, kn, n, as, rfl, _⟩, k⟩ := h
    rfl
  · obtain ⟨v, ⟨p, a, kn, n, as, rfl, hp, ha, hl, hos, rfl⟩, k⟩ := h
    refine ⟨_, (pss_cons (ps_expr (pc c_check_kind hr (pa_cons (pv 0) pa_nil)))
      (pss_one (ps_for PassesOwn.never rfl (pi_list (pv 1)) (pg_name (i := 2) sc_check_orders.nd rfl (Or.inl rfl))
      (pss_one (ps_expr (pc c_check_order hr (pa_cons (pv 0) (pa_cons (pv 2) pa_nil)))))))), ?_⟩
    refine q_drop (ev_ck rfl hp) fun H1 e1 => s_forLn (xs := as.map V.ref) (ev_var rfl) (sq_of (e1 _ _ ha)) (fun i σ' H' => ∃ x2, σ' = [some (.ref p), some (.ref a), x2] ∧ Ex H H') (fun H2 e2 => ⟨none, rfl, e1.trans e2⟩) (fun i σ' H' _ ⟨_, _, e⟩ => sq_of (e _ _ ha)) ?_ ?_
    · rintro i x σ' H' hi ⟨x2, rfl, e⟩
      rw [List.getElem?_map] at hi
      cases eb : as[i]? with
      | none =>
        rw [eb] at hi
        cases hi
      | some b =>
        rw [eb] at hi
        obtain rfl : V.ref b = x := Option.some.inj hi
        obtain ⟨o, ho⟩ := hos b (List.mem_of_getElem? eb)
        exact s_drop (ev_co rfl rfl (ho.mono e)) fun H2 e2 => ⟨_, rfl, e.trans e2⟩
    · rintro σ' H' ⟨x2, rfl, e⟩
      exact k H' e
end
end SL

set_option Elab.async false
set_option linter.all false
set_option maxRecDepth 100000
set_option maxHeartbeats 4000000
namespace SL
open PySem PySem.Spec PyProof.Rows L2 Evl
abbrev s_lesser : Stmt := tp 33
abbrev N_lesser : List Str := ["kind", "order", "step"]
theorem sc_lesser : FnScope N_lesser ["kind", "order", "step"] (defScope s_lesser) := ⟨rfl, rfl, rfl, by decide +kernel, rfl, by decide +kernel, by decide +kernel⟩
abbrev s_gain : Stmt := tp 40
abbrev N_gain : List Str := ["kind", "order", "step"]
theorem sc_gain : FnScope N_gain ["kind", "order", "step"] (defScope s_gain) := ⟨rfl, rfl, rfl, by decide +kernel, rfl, by decide +kernel, by decide +kernel⟩
abbrev s_gained_all : Stmt := tp 42
abbrev N_gained_all : List Str := ["kind", "order", "row", "found", "step"]
theorem sc_gained_all : FnScope N_gained_all ["kind", "order", "row"] (defScope s_gained_all) := ⟨rfl, rfl, rfl, by decide +kernel, rfl, by decide +kernel, by decide +kernel⟩
abbrev s_least_row_of : Stmt := tp 30
abbrev N_least_row_of : List Str := ["kind", "order", "found", "left", "steps"]
theorem sc_least_row_of : FnScope N_least_row_of ["kind", "order"] (defScope s_least_row_of) := ⟨rfl, rfl, rfl, by decide +kernel, rfl, by decide +kernel, by decide +kernel⟩
abbrev s_greedy_of : Stmt := tp 41
abbrev N_greedy_of : List Str := ["kind", "one", "other"]
theorem sc_greedy_of : FnScope N_greedy_of ["kind", "one", "other"] (defScope s_greedy_of) := ⟨rfl, rfl, rfl, by decide +kernel, rfl, by decide +kernel, by decide +kernel⟩
abbrev s_greedy : Stmt := tp 43
abbrev N_greedy : List Str := ["kind", "one", "other"]
theorem sc_greedy : FnScope N_greedy ["kind", "one", "other"] (defScope s_greedy) := ⟨rfl, rfl, rfl, by decide +kernel, rfl, by decide +kernel, by decide +kernel⟩
abbrev s_is_below : Stmt := tp 34
abbrev N_is_below : List Str := ["kind", "one", "other", "low", "high", "falls"]
theorem sc_is_below : FnScope N_is_below ["kind", "one", "other"] (defScope s_is_below) := ⟨rfl, rfl, rfl, by decide +kernel, rfl, by decide +kernel, by decide +kernel⟩
abbrev s_is_beneath : Stmt := tp 35
abbrev N_is_beneath : List Str := ["kind", "one", "other"]
theorem sc_is_beneath : FnScope N_is_beneath ["kind", "one", "other"] (defScope s_is_beneath) := ⟨rfl, rfl, rfl, by decide +kernel, rfl, by decide +kernel, by decide +kernel⟩
abbrev s_power : Stmt := tp 44
abbrev N_power : List Str := ["kind", "order", "count", "found", "_", "further"]
theorem sc_power : FnScope N_power ["kind", "order", "count"] (defScope s_power) := ⟨rfl, rfl, rfl, by decide +kernel, rfl, by decide +kernel, by decide +kernel⟩
abbrev s_crossings : Stmt := tp 49
abbrev N_crossings : List Str := ["kind", "order"]
theorem sc_crossings : FnScope N_crossings ["kind", "order"] (defScope s_crossings) := ⟨rfl, rfl, rfl, by decide +kernel, rfl, by decide +kernel, by decide +kernel⟩
abbrev s_falls : Stmt := tp 50
abbrev N_falls : List Str := ["kind", "order"]
theorem sc_falls : FnScope N_falls ["kind", "order"] (defScope s_falls) := ⟨rfl, rfl, rfl, by decide +kernel, rfl, by decide +kernel, by decide +kernel⟩
abbrev s_opposite : Stmt := tp 51
abbrev N_opposite : List Str := ["kind", "order"]
theorem sc_opposite : FnScope N_opposite ["kind", "order"] (defScope s_opposite) := ⟨rfl, rfl, rfl, by decide +kernel, rfl, by decide +kernel, by decide +kernel⟩
abbrev s_product : Stmt := tp 52
abbrev N_product : List Str := ["kind", "one", "other"]
theorem sc_product : FnScope N_product ["kind", "one", "other"] (defScope s_product) := ⟨rfl, rfl, rfl, by decide +kernel, rfl, by decide +kernel, by decide +kernel⟩
/-- some list that holds o, new or not -/
def RetS (o : List Int) (H : Hp) (Q : VK) : Prop := ∀ p H2, Ex H H2 → Ls H2 p o → Q (.ref p) H2
def EvS (te : TE) (σ : L2.St) (H : Hp) (o : List Int) : Prop := ∀ H1, Ex H H1 → ∀ Q : VK, (∀ p H2, Ex H1 H2 → Ls H2 p o → Q (.ref p) H2) → te σ H1 Q
def stepAt (C : Addr) (H : Hp) (p a : Addr) (k : Kn) (n : Nat) (o : List Int) (j : Nat) : Prop := KindAt C H p k n ∧ Ls H a o ∧ n ≤ 7 ∧ Vd k.m n o ∧ j < nst k.m n
theorem stepAt.mono {C : Addr} {H H' : Hp} {p a : Addr} {k : Kn} {n j : Nat} {o : List Int} (h : stepAt C H p a k n o j) (e : Ex H H') : stepAt C H' p a k n o j := ⟨h.1.mono e, e _ _ h.2.1, h.2.2⟩
def sp_lesser (K : PySem.W.Frag) (C : Addr) : Sp := fun vs H Q _ => ∃ (p a : Addr) (k : Kn) (n j : Nat) (o : List Int), vs = [.ref p, .ref a, .int j] ∧ stepAt C H p a k n o j ∧ RetS (lss k.m o j) H Q
def sp_gain (K : PySem.W.Frag) (C : Addr) : Sp := PL fun vs H xs => ∃ (p a : Addr) (k : Kn) (n j : Nat) (o : List Int), vs = [.ref p, .ref a, .int j] ∧ stepAt C H p a k n o j ∧ xs = (gain k.m o j).map V.int
def sp_gained_all (K : PySem.W.Frag) (C : Addr) : Sp := PL fun vs H xs => ∃ (p a b : Addr) (k : Kn) (n : Nat) (o : List Int) (r : List Nat), vs = [.ref p, .ref a, .ref b] ∧ KindAt C H p k n ∧ Ls H a o ∧ n ≤ 7 ∧ Vd k.m n o ∧ Ls H b (nI r) ∧ (∀ j ∈ r, j < nst k.m n) ∧ xs = (gains k.m o r).map V.int
def sp_least_row_of (K : PySem.W.Frag) (C : Addr) : Sp := PL fun vs H xs => ∃ (p a : Addr) (k : Kn) (n : Nat) (o : List Int), vs = [.ref p, .ref a] ∧ OrdAt C H p a k n o ∧ xs = (nI (lrow k.m n o)).map V.int
def sp_greedy_of (K : PySem.W.Frag) (C : Addr) : Sp := PL fun vs H xs => ∃ (p a b : Addr) (k : Kn) (n : Nat) (o q : List Int), vs = [.ref p, .ref a, .ref b] ∧ OrdAt C H p a k n o ∧ OrdAt C H p b k n q ∧ xs = (grd k.m n o q).map V.int
def sp_greedy (K : PySem.W.Frag) (C : Addr) : Sp := sp_greedy_of K C
def sp_is_below (K : PySem.W.Frag) (C : Addr) : Sp := PV fun vs H v => ∃ (p a b : Addr) (k : Kn) (n : Nat) (o q : List Int), vs = [.ref p, .ref a, .ref b] ∧ OrdAt C H p a k n o ∧ OrdAt C H p b k n q ∧ v = .bl (bel k.m n o q)
def sp_is_beneath (K : PySem.W.Frag) (C : Addr) : Sp := sp_is_below K C
def sp_power (K : PySem.W.Frag) (C : Addr) : Sp := PL fun vs H xs => ∃ (p a : Addr) (k : Kn) (n c : Nat) (o : List Int), vs = [.ref p, .ref a, .int c] ∧ OrdAt C H p a k n o ∧ c ≤ 1000 ∧ xs = (pow k.m n o c).map V.int
def sp_crossings (K : PySem.W.Frag) (C : Addr) : Sp := PV fun vs H v => ∃ (p a : Addr) (k : Kn) (n : Nat) (o : List Int), vs = [.ref p, .ref a] ∧ OrdAt C H p a k n o ∧ v = .int (crs k.m o 0)
def sp_falls (K : PySem.W.Frag) (C : Addr) : Sp := PL fun vs H xs => ∃ (p a : Addr) (k : Kn) (n : Nat) (o : List Int), vs = [.ref p, .ref a] ∧ OrdAt C H p a k n o ∧ xs = (nI (fls k.m n o)).map V.int
def sp_opposite (K : PySem.W.Frag) (C : Addr) : Sp := PL fun vs H xs => ∃ (p a : Addr) (k : Kn) (n : Nat) (o : List Int), vs = [.ref p, .ref a] ∧ OrdAt C H p a k n o ∧ xs = (opp k.m n o).map V.int
def sp_product (K : PySem.W.Frag) (C : Addr) : Sp := PL fun vs H xs => ∃ (p a b : Addr) (k : Kn) (n : Nat) (o q : List Int), vs = [.ref p, .ref a, .ref b] ∧ OrdAt C H p a k n o ∧ OrdAt C H p b k n q ∧ xs = (prd k.m o q).map V.int
section
variable {P : Program} {w : World} {K : PySem.W.Frag} {mg : Str → Option Value} {base : Heap} {C D : Addr}
theorem crk_nst {k : Kn} {n j : Nat} {o : List Int} (h : j < nst k.m n) : crk k n o j = cr k.m o j := by
  unfold crk
  refine if_neg ?_
  rintro ⟨rfl, e⟩
  have : j < n - 1 := h
  omega
theorem nst_stN {k : Kn} {n j : Nat} (h : j < nst k.m n) : j < stN k n := by
  cases k with
  | pl => exact h
  | mi => exact h
  | ri =>
    have : j < n - 1 := h
    show j < n
    omega
section
variable {σ : L2.St} {H : Hp} {i1 i2 i3 : Nat} {p a : Addr} {kn : Kn} {n j : Nat} {o : List Int} {tj : TE}
theorem ev_cross (h1 : σ[i1]? = some (some (.ref p))) (h2 : σ[i2]? = some (some (.ref a))) (hj : Ev tj σ H (.int (j : Int))) (h : stepAt C H p a kn n o j) : Ev (tCall (sp_is_crossed K C) [] E0 (tCons (tVar i1) (tCons (tVar i2) (tCons tj tNil)))) σ H (.bl (cr kn.m o j)) := by
  rw [← crk_nst h.2.2.2.2]
  exact ev_call (ea_cons (ev_var h1) (ea_cons (ev_var h2) (ea_cons hj ea_nil))) (PV.sp fun H1 e => ⟨p, a, kn, n, j, o, rfl, h.1.mono e, .inl (sq_of (e _ _ h.2.1)), h.2.2.2.1.len, nst_stN h.2.2.2.2, vd_ls h.2.2.2.1, rfl⟩)
theorem el_step (h1 : σ[i1]? = some (some (.ref p))) (h2 : σ[i2]? = some (some (.ref a))) (hj : Ev tj σ H (.int (j : Int))) (h : stepAt C H p a kn n o j) : EvL (tCall (sp_by_step K C) [] E0 (tCons (tVar i1) (tCons (tVar i2) (tCons tj tNil)))) σ H ((stp kn.m o j).map V.int) :=
  el_call (ea_cons (ev_var h1) (ea_cons (ev_var h2) (ea_cons hj ea_nil))) (PL.sp fun H1 e => ⟨p, a, kn, n, j, o, rfl, h.1.mono e, .inl (sq_of (e _ _ h.2.1)), h.2.2.2.1.len, h.2.2.1, h.2.2.2.2, rfl⟩)
theorem el_falls (h1 : σ[i1]? = some (some (.ref p))) (h2 : σ[i2]? = some (some (.ref a))) (hp : KindAt C H p kn n) (ho : Ls H a o) (n1 : 1 ≤ n) (n7 : n ≤ 7) (v : Vd kn.m n o) : EvL (tCall (sp_falls_of K C) [] E0 (tCons (tVar i1) (tCons (tVar i2) tNil))) σ H ((nI (fls kn.m n o)).map V.int) :=
  el_call (ea_cons (ev_var h1) (ea_cons (ev_var h2) ea_nil)) (PL.sp fun H1 e => ⟨p, a, kn, n, o, rfl, hp.mono e, e _ _ ho, n1, n7, v, rfl⟩)
theorem el_start (h1 : σ[i1]? = some (some (.ref p))) (hp : KindAt C H p kn n) (n7 : n ≤ 7) : EvL (tMeth C "start" (sp_K_start K C) [] E0 (tVar i1) tNil) σ H ((strt kn.m n).map V.int) :=
  el_m0 (ev_var h1) hp (PL.sp fun H1 e => ⟨p, kn, n, rfl, hp.mono e, n7, rfl⟩)
theorem EvS.of {te : TE} {o : List Int} (h : EvL te σ H (o.map V.int)) : EvS te σ H o := fun H1 e Q q => h H1 e Q fun p H2 _ e2 h2 => q p H2 e2 h2
theorem es_var {i : Nat} (h : σ[i]? = some (some (.ref a))) (ho : Ls H a o) : EvS (tVar i) σ H o := fun H1 e Q q => ⟨_, h, q a H1 (Ex.refl H1) (e _ _ ho)⟩
theorem es_if {t : TT} {ta tb : TE} {b : Bool} (h : EvT t σ H b) (h1 : b = true → EvS ta σ H o) (h2 : b = false → EvS tb σ H o) : EvS (tIf t ta tb) σ H o := fun H1 e Q q => h H1 e _ fun H2 e2 => by
  cases b with
  | true => exact h1 rfl H2 (e.trans e2) Q fun p H3 e3 h3 => q p H3 (e2.trans e3) h3
  | false => exact h2 rfl H2 (e.trans e2) Q fun p H3 e3 h3 => q p H3 (e2.trans e3) h3
theorem el_if {t : TT} {ta tb : TE} {b : Bool} {xs : List V} (h : EvT t σ H b) (h1 : b = true → EvL ta σ H xs) (h2 : b = false → EvL tb σ H xs) : EvL (tIf t ta tb) σ H xs := fun H1 e Q q => h H1 e _ fun H2 e2 => by
  cases b with
  | true => exact h1 rfl H2 (e.trans e2) Q fun p H3 hp e3 h3 => q p H3 (fresh_back e2 hp) (e2.trans e3) h3
  | false => exact h2 rfl H2 (e.trans e2) Q fun p H3 hp e3 h3 => q p H3 (fresh_back e2 hp) (e2.trans e3) h3
end
theorem ok_lesser {f : Addr} {fd : FuncData} (F : FnP K "lesser" "lesser" s_lesser f fd) (T : Tx K w mg C D) (c_is_crossed : Cal P w K mg base 2 "is_crossed" (sp_is_crossed K C)) (c_by_step : Cal P w K mg base 2 "by_step" (sp_by_step K C)) : FnOk P w K mg base CX0 3 f fd ["kind", "order", "step"] (sp_lesser K C) := by
  refine fn0 F sc_lesser (fun vs H Q E h => ?_) (fun cdv A outer s H vs Q E hr h => ?_)
  · obtain ⟨p, a, kn, n, j, o, rfl, _⟩ := h
    rfl
  · obtain ⟨p, a, kn, n, j, o, rfl, hs, k⟩ := h
    refine ⟨_, (pss_one (ps_ret (pe_ifExp (pt_val (pc c_is_crossed hr (pa_cons (pv 0) (pa_cons (pv 1) (pa_cons (pv 2) pa_nil))))) (pc c_by_step hr (pa_cons (pv 0) (pa_cons (pv 1) (pa_cons (pv 2) pa_nil)))) (pv 1)))), ?_⟩
    refine (es_if (o := lss kn.m o j) (et_B (ev_cross rfl rfl (ev_var rfl) hs)) (fun z => ?_) (fun z => ?_)) H (Ex.refl H) _ k
    · unfold lss
      rw [if_pos z]
      exact .of (el_step rfl rfl (ev_var rfl) hs)
    · unfold lss
      rw [z, if_neg Bool.false_ne_true]
      exact es_var rfl hs.2.1
theorem ok_gain {f : Addr} {fd : FuncData} (F : FnP K "gain" "gain" s_gain f fd) (T : Tx K w mg C D) (c_is_crossed : Cal P w K mg base 2 "is_crossed" (sp_is_crossed K C)) (c_by_step : Cal P w K mg base 2 "by_step" (sp_by_step K C)) : FnOk P w K mg base CX0 3 f fd ["kind", "order", "step"] (sp_gain K C) := by
  refine fn0 F sc_gain (fun vs H Q E h => ?_) (fun cdv A outer s H vs Q E hr h => ?_)
  · obtain ⟨v, ⟨p, a, kn, n, j, o, rfl, _⟩, k⟩ := h
    rfl
  · obtain ⟨v, ⟨p, a, kn, n, j, o, rfl, hs, rfl⟩, k⟩ := h
    refine ⟨_, (pss_one (ps_ret (pe_ifExp (pt_val (pc c_is_crossed hr (pa_cons (pv 0) (pa_cons (pv 1) (pa_cons (pv 2) pa_nil))))) (pe_callTy call_list_of (by rfl) T.b_list (by decide +kernel) (pa_cons (pv 1) pa_nil)) (pc c_by_step hr (pa_cons (pv 0) (pa_cons (pv 1) (pa_cons (pv 2) pa_nil))))))), ?_⟩
    refine s_retL (el_if (et_B (ev_cross rfl rfl (ev_var rfl) hs)) (fun z => ?_) (fun z => ?_)) k
    · unfold gain
      rw [if_pos z]
      exact el_list (ev_var rfl) (sq_of hs.2.1)
    · unfold gain
      rw [z, if_neg Bool.false_ne_true]
      exact el_step rfl rfl (ev_var rfl) hs
theorem nI_get {r : List Nat} {i : Nat} {x : V} (h : ((nI r).map V.int)[i]? = some x) : ∃ j : Nat, x = .int (j : Int) ∧ j ∈ r ∧ r.drop i = j :: r.drop (i + 1) := by
  unfold nI at h
  rw [List.map_map, List.getElem?_map] at h
  cases e : r[i]? with
  | none =>
    rw [e] at h
    cases h
  | some j =>
    rw [e] at h
    obtain ⟨hi, ej⟩ := List.getElem?_eq_some_iff.mp e
    refine ⟨j, (Option.some.inj h).symm, List.mem_of_getElem? e, ?_⟩
    rw [← ej]
    exact List.drop_eq_getElem_cons hi
theorem nI_len (r : List Nat) : ((nI r).map V.int).length = r.length := by unfold nI; rw [List.length_map, List.length_map]
theorem ok_gained_all {f : Addr} {fd : FuncData} (F : FnP K "gained_all" "gained_all" s_gained_all f fd) (T : Tx K w mg C D) (c_gain : Cal P w K mg base 3 "gain" (sp_gain K C)) : FnOk P w K mg base CX0 4 f fd ["kind", "order", "row"] (sp_gained_all K C) := by
  refine fn0 F sc_gained_all (fun vs H Q E h => ?_) (fun cdv A outer s H vs Q E hr h => ?_)
  · obtain ⟨v, ⟨p, a, b, kn, n, o, r, rfl, _⟩, k⟩ := h
    rfl
  · obtain ⟨v, ⟨p, a, b, kn, n, o, r, rfl, hp, ho, n7, vo, hb, hr2, rfl⟩, k⟩ := h
    refine ⟨_, (pss_cons (ps_set (i := 3) sc_gained_all.nd rfl (Or.inl rfl) (pe_callTy call_list_of (by rfl) T.b_list (by decide +kernel) (pa_cons (pv 1) pa_nil)))
      (pss_cons (ps_for PassesOwn.never rfl (pi_list (pv 2)) (pg_name (i := 4) sc_gained_all.nd rfl (Or.inl rfl))
      (pss_one (ps_set (i := 3) sc_gained_all.nd rfl (Or.inl rfl) (pc c_gain hr (pa_cons (pv 0) (pa_cons (pv 3) (pa_cons (pv 4) pa_nil)))))))
      (pss_one (ps_ret (pv 3))))), ?_⟩
    refine q_asgL (el_list (ev_var rfl) (sq_of ho)) fun l H1 hl0 e1 h1 => ?_
    refine q_forLn (xs := (nI r).map V.int) (ev_var rfl) (sq_of (e1 _ _ hb)) (fun i σ' H' => ∃ (f : List Int) (pl : Addr) (x4 : Option V), σ' = [some (.ref p), some (.ref a), some (.ref b), some (.ref pl), x4] ∧ H pl = none ∧ Ex H H' ∧ Ls H' pl f ∧ Vd kn.m n f ∧ gains kn.m f (r.drop i) = gains kn.m o r)
      (fun H2 e2 => ⟨o, l, none, rfl, hl0, e1.trans e2, e2 _ _ h1, vo, rfl⟩) (fun i σ' H' _ ⟨_, _, _, _, _, e, _⟩ => sq_of (e _ _ hb)) ?_ ?_
    · rintro i x σ' H' hi ⟨f, pl, x4, rfl, hn, e, hf, vf, hg⟩
      obtain ⟨j, rfl, hj, hd⟩ := nI_get hi
      rw [hd] at hg
      have hs : stepAt C H' p pl kn n f j := ⟨hp.mono e, hf, n7, vf, hr2 j hj⟩
      refine s_asgL (el_call (ea_cons (ev_var rfl) (ea_cons (ev_var rfl) (ea_cons (ev_var rfl) ea_nil))) (PL.sp fun H2 e2 => ⟨p, pl, kn, n, j, f, rfl, hs.mono e2, rfl⟩)) fun q H2 hq e2 h2 => ?_
      exact ⟨gain kn.m f j, q, _, rfl, fresh_back e hq, e.trans e2, h2, vf.gain (hr2 j hj), hg⟩
    · rintro σ' H' ⟨f, pl, x4, rfl, hn, e, hf, vf, hg⟩
      rw [nI_len, List.drop_length] at hg
      have hg2 : f = gains kn.m o r := hg
      subst hg2
      exact s_ret (ev_var rfl) fun H2 e2 => k pl H2 hn (e.trans e2) (e2 _ _ hf)
theorem nI_nil {r : List Nat} : decide (nI r = []) = decide (r = []) := by
  cases r <;> rfl
theorem nI_head (j : Nat) (t : List Nat) : gd (nI (j :: t)) 0 = (j : Int) := rfl
theorem q_parLL {σ : L2.St} {H : Hp} {ta tb : TE} {xs ys : List V} {i j : Nat} {D' : Ends} {tz : TS} (ha : EvL ta σ H xs) (hb : ∀ H1, Ex H H1 → EvL tb σ H1 ys)
    (k : ∀ p1 H1 p2 H2, H p1 = none → Ex H H1 → H1 p1 = some (.lst xs) → H1 p2 = none → Ex H1 H2 → H2 p2 = some (.lst ys) → tz D' ((σ.set i (some (.ref p1))).set j (some (.ref p2))) H2) : tSeq (tPar i j (tCons ta (tCons tb tNil))) tz D' σ H :=
  ha H (Ex.refl H) _ fun p1 H1 n1 e1 h1 => hb H1 e1 H1 (Ex.refl H1) _ fun p2 H2 n2 e2 h2 => ⟨_, _, rfl, k p1 H1 p2 H2 n1 e1 h1 n2 e2 h2⟩
theorem ok_least_row_of {f : Addr} {fd : FuncData} (F : FnP K "least_row_of" "least_row_of" s_least_row_of f fd) (T : Tx K w mg C D) (c_falls_of : Cal P w K mg base 3 "falls_of" (sp_falls_of K C)) (c_by_step : Cal P w K mg base 2 "by_step" (sp_by_step K C)) : FnOk P w K mg base CX0 4 f fd ["kind", "order"] (sp_least_row_of K C) := by
  refine fn0 F sc_least_row_of (fun vs H Q E h => ?_) (fun cdv A outer s H vs Q E hr h => ?_)
  · obtain ⟨v, ⟨p, a, kn, n, o, rfl, _⟩, k⟩ := h
    rfl
  · obtain ⟨v, ⟨p, a, kn, n, o, rfl, ⟨hp, ho, n1, nt, vo⟩, rfl⟩, k⟩ := h
    have n7 := top7 nt
    refine ⟨_, (pss_cons (ps_par (i := 2) (j := 3) rfl sc_least_row_of.nd rfl rfl (by decide) rfl rfl (pa_cons (pe_lst pa_nil) (pa_cons (pe_callTy call_list_of (by rfl) T.b_list (by decide +kernel) (pa_cons (pv 1) pa_nil)) pa_nil)) (by rfl))
      (pss_cons (ps_set (i := 4) sc_least_row_of.nd rfl (Or.inl rfl) (pc c_falls_of hr (pa_cons (pv 0) (pa_cons (pv 3) pa_nil))))
      (pss_cons (ps_while PassesOwn.never (pt_cmpR (op_neD hr.units) (pv 4) (pe_lst pa_nil) (nomark _)) (pss_cons (ps_expr (pe_bm PySem.F.plainAttrs_list PySem.F.slot_list_append PySem.F.type_list_append mt_append (pv 2) (pa_cons (pe_ix ix_seq (pv 4) pe_int (fun _ _ => rfl)) pa_nil)))
      (pss_cons (ps_set (i := 3) sc_least_row_of.nd rfl (Or.inl rfl) (pc c_by_step hr (pa_cons (pv 0) (pa_cons (pv 3) (pa_cons (pe_ix ix_seq (pv 4) pe_int (fun _ _ => rfl)) pa_nil)))))
      (pss_one (ps_set (i := 4) sc_least_row_of.nd rfl (Or.inl rfl) (pc c_falls_of hr (pa_cons (pv 0) (pa_cons (pv 3) pa_nil))))))))
      (pss_one (ps_ret (pe_revL (pv 2))))))), ?_⟩
    -- found, left = [], list(order)
    refine q_parLL (el_lst ea_nil (by decide)) (fun H1 e1 => el_list (ev_var rfl) (sq_of (e1 _ _ ho))) fun l H1 pl H2 hl0 e1 h1 hpl e2 h2 => ?_
    have e12 := e1.trans e2
    refine q_asgL (el_falls rfl rfl (hp.mono e12) h2 n1 n7 vo) fun ps H3 hps e3 h3 => ?_
    have e13 := e12.trans e3
    refine q_while (fun m σ' H' => ∃ (fd : List Nat) (lf : List Int) (pl ps : Addr), σ' = [some (.ref p), some (.ref a), some (.ref l), some (.ref pl), some (.ref ps)] ∧ Ex H H' ∧ Ls H' l (nI fd) ∧ Ls H' pl lf ∧ Ls H' ps (nI (fls kn.m n lf)) ∧ pl ≠ l ∧ ps ≠ l ∧ Vd kn.m n lf ∧ ends kn.m n m lf = true ∧ fd.length + m = 16 ∧ fd ++ down kn.m n m lf = down kn.m n 16 o) 16
      ⟨[], o, pl, ps, rfl, e13, (e2.trans e3) _ _ h1, e3 _ _ h2, h3, (fun q => by rw [q, h1] at hpl; cases hpl), (fun q => by rw [q, e2 _ _ h1] at hps; cases hps), vo, vo.ends nt, rfl, rfl⟩ ?_
    rintro m σ' H' ⟨fd, lf, pl, ps, rfl, e, hl, hpl, hps, nl, ns, vf, en, hlen, hd⟩
    refine ⟨_, et_test (ev_opL (xs := ([] : List Int).map V.int) (ev_var rfl) (el_lst ea_nil (by decide)) fun q H4 hq e4 => rv_neL (e4 _ _ hps) hq), fun z H4 e4 => ?_, fun z H4 e4 => ?_⟩
    · rw [nI_nil] at z
      cases ef : fls kn.m n lf with
      | nil =>
        rw [ef] at z
        cases z
      | cons j t =>
        have hj := (mem_fls (m := kn.m) (n := n) (o := lf) (by rw [ef]; exact List.mem_cons_self)).1
        cases m with
        | zero =>
          unfold ends at en
          rw [ef] at en
          cases en
        | succ m =>
          unfold ends at en
          rw [ef] at en
          unfold down at hd
          rw [ef] at hd
          have eix : ∀ (σ : L2.St) (H' : Hp), σ[4]? = some (some (.ref ps)) → Ls H' ps (nI (j :: t)) → Ev (tOp (rIx K) (tVar 4) (tC (.int 0))) σ H' (.int (j : Int)) := fun σ H' q1 q2 =>
            ev_op (ev_var q1) ev_c (rv_ix (.inl (sq_of q2)) (by decide) (by unfold nI; rw [List.length_map]; exact Int.natCast_pos.mpr (Nat.succ_pos _)))
          rw [ef] at hps
          have en2 : ends kn.m n m (stp kn.m lf j) = true := en
          have hd2 : fd ++ j :: down kn.m n m (stp kn.m lf j) = down kn.m n 16 o := hd
          refine ⟨fun σ2 H2 => ∃ m', m' < m + 1 ∧ _, fun σ2 H2 h => h, ?_⟩
          refine q_app (xs := (nI fd).map V.int) (e4 _ _ hl) (ev_var rfl) (eix _ _ rfl (e4 _ _ hps)) (by rw [nI_len]; omega) fun H5 e5 => ?_
          have e5' : Ex H4 H5 := e5
          have hpl6 : Ls (L2.upd H5 l (.lst ((nI fd).map V.int ++ [V.int (j : Int)]))) pl lf := (upd_ne nl).trans (e5 _ _ (e4 _ _ hpl))
          have hps6 : Ls (L2.upd H5 l (.lst ((nI fd).map V.int ++ [V.int (j : Int)]))) ps (nI (j :: t)) := (upd_ne ns).trans (e5 _ _ (e4 _ _ hps))
          have e6 : Ex H (L2.upd H5 l (.lst ((nI fd).map V.int ++ [V.int (j : Int)]))) := Exl.ex (e.trans (e4.trans e5)) hl0 Exl.upd
          have hl6 : Ls (L2.upd H5 l (.lst ((nI fd).map V.int ++ [V.int (j : Int)]))) l (nI (fd ++ [j])) := upd_same.trans (by unfold nI; rw [List.map_append, List.map_append]; rfl)
          refine q_asgL (el_step rfl rfl (eix _ _ rfl hps6) ⟨hp.mono e6, hpl6, n7, vf, hj⟩) fun pl2 H7 hpl2 e7 h7 => ?_
          have vf2 := vf.stp hj
          refine s_asgL (el_falls rfl rfl (hp.mono (e6.trans e7)) h7 n1 n7 vf2) fun ps2 H8 hps2 e8 h8 => ?_
          refine ⟨m, Nat.lt_succ_self m, fd ++ [j], stp kn.m lf j, pl2, ps2, rfl, (e6.trans e7).trans e8, e8 _ _ (e7 _ _ hl6), e8 _ _ h7, h8, fun q => ?_, fun q => ?_, vf2, en2, by rw [List.length_append, List.length_singleton]; omega, by rw [List.append_assoc]; exact hd2⟩
          · rw [q] at hpl2
            rw [hl6] at hpl2
            cases hpl2
          · rw [q] at hps2
            rw [e7 _ _ hl6] at hps2
            cases hps2
    · rw [nI_nil] at z
      cases ef : fls kn.m n lf with
      | cons j t =>
        rw [ef] at z
        cases z
      | nil =>
        have e0 : down kn.m n m lf = [] := by
          cases m with
          | zero => rfl
          | succ m =>
            unfold down
            rw [ef]
        rw [e0, List.append_nil] at hd
        subst hd
        have er : (nI (lrow kn.m n o)).map V.int = ((nI (down kn.m n 16 o)).map V.int).reverse := by
          unfold lrow nI
          rw [List.map_reverse, List.map_reverse]
        rw [er] at k
        exact s_retL (el_rev (ev_var rfl) (sq_of (e4 _ _ hl))) fun q H5 hq e5 h5 => k.go (e.trans e4) hq e5 h5
theorem ok_greedy_of {f : Addr} {fd : FuncData} (F : FnP K "greedy_of" "greedy_of" s_greedy_of f fd) (T : Tx K w mg C D) (c_gained_all : Cal P w K mg base 4 "gained_all" (sp_gained_all K C)) (c_least_row_of : Cal P w K mg base 4 "least_row_of" (sp_least_row_of K C)) : FnOk P w K mg base CX0 5 f fd ["kind", "one", "other"] (sp_greedy_of K C) := by
  refine fn0 F sc_greedy_of (fun vs H Q E h => ?_) (fun cdv A outer s H vs Q E hr h => ?_)
  · obtain ⟨v, ⟨p, a, b, kn, n, o, q, rfl, _⟩, k⟩ := h
    rfl
  · obtain ⟨v, ⟨p, a, b, kn, n, o, q, rfl, ho, hq, rfl⟩, k⟩ := h
    refine ⟨_, (pss_one (ps_ret (pc c_gained_all hr (pa_cons (pv 0) (pa_cons (pv 1) (pa_cons (pc c_least_row_of hr (pa_cons (pv 0) (pa_cons (pv 2) pa_nil))) pa_nil)))))), ?_⟩
    refine s_retL (fun H1 e1 Q1 q1 => ⟨_, rfl, _, rfl, el_call (ea_cons (ev_var rfl) (ea_cons (ev_var rfl) ea_nil)) (PL.sp fun H2 e2 => ⟨p, b, kn, n, q, rfl, hq.mono e2, rfl⟩) H1 e1 _ fun r H2 hr2 e2 h2 => ?_⟩) k
    exact ⟨_, ⟨p, a, r, kn, n, o, lrow kn.m n q, rfl, ho.1.mono (e1.trans e2), (e1.trans e2) _ _ ho.2.1, top7 ho.2.2.2.1, ho.2.2.2.2, h2, lrow_lt, rfl⟩, fun u H3 hu e3 h3 => q1 u H3 (fresh_back e2 hu) (e2.trans e3) h3⟩
/-- greedy_of(kind, one, other) -/
theorem el_greedy {σ : L2.St} {H : Hp} {i1 i2 i3 : Nat} {p a b : Addr} {kn : Kn} {n : Nat} {o q : List Int} (h1 : σ[i1]? = some (some (.ref p))) (h2 : σ[i2]? = some (some (.ref a))) (h3 : σ[i3]? = some (some (.ref b))) (ho : OrdAt C H p a kn n o) (hq : OrdAt C H p b kn n q) :
    EvL (tCall (sp_greedy_of K C) [] E0 (tCons (tVar i1) (tCons (tVar i2) (tCons (tVar i3) tNil)))) σ H ((grd kn.m n o q).map V.int) :=
  el_call (ea_cons (ev_var h1) (ea_cons (ev_var h2) (ea_cons (ev_var h3) ea_nil))) (PL.sp fun H1 e => ⟨p, a, b, kn, n, o, q, rfl, ho.mono e, hq.mono e, rfl⟩)
theorem ok_greedy {f : Addr} {fd : FuncData} (F : FnP K "greedy" "greedy" s_greedy f fd) (T : Tx K w mg C D) (c_check_two : Cal P w K mg base 7 "check_two" (sp_check_two K C)) (c_greedy_of : Cal P w K mg base 5 "greedy_of" (sp_greedy_of K C)) : FnOk P w K mg base CX0 8 f fd ["kind", "one", "other"] (sp_greedy K C) := by
  refine fn0 F sc_greedy (fun vs H Q E h => ?_) (fun cdv A outer s H vs Q E hr h => ?_)
  · obtain ⟨v, ⟨p, a, b, kn, n, o, q, rfl, _⟩, k⟩ := h
    rfl
  · obtain ⟨v, ⟨p, a, b, kn, n, o, q, rfl, ho, hq, rfl⟩, k⟩ := h
    refine ⟨_, (pss_cons (ps_expr (pc c_check_two hr (pa_cons (pv 0) (pa_cons (pv 1) (pa_cons (pv 2) pa_nil)))))
      (pss_one (ps_ret (pc c_greedy_of hr (pa_cons (pv 0) (pa_cons (pv 1) (pa_cons (pv 2) pa_nil))))))), ?_⟩
    exact q_drop (ev_call (ea_cons (ev_var rfl) (ea_cons (ev_var rfl) (ea_cons (ev_var rfl) ea_nil))) (PV.sp fun H1 e => ⟨p, a, b, kn, n, o, q, rfl, ho.mono e, hq.mono e, rfl⟩)) fun H1 e1 => s_retL (el_greedy rfl rfl rfl (ho.mono e1) (hq.mono e1)) fun u H2 hu e2 h2 => k.go e1 hu e2 h2
theorem ok_is_below {f : Addr} {fd : FuncData} (F : FnP K "is_below" "is_below" s_is_below f fd) (T : Tx K w mg C D) (c_falls_of : Cal P w K mg base 3 "falls_of" (sp_falls_of K C)) (c_lesser : Cal P w K mg base 3 "lesser" (sp_lesser K C)) (c_by_step : Cal P w K mg base 2 "by_step" (sp_by_step K C)) (m_start : Met P w K mg base 1 C "start" (sp_K_start K C)) : FnOk P w K mg base CX0 4 f fd ["kind", "one", "other"] (sp_is_below K C) := by
  refine fn0 F sc_is_below (fun vs H Q E h => ?_) (fun cdv A outer s H vs Q E hr h => ?_)
  · obtain ⟨v, ⟨p, a, b, kn, n, o, q, rfl, _⟩, k⟩ := h
    rfl
  · obtain ⟨v, ⟨p, a, b, kn, n, o, q, rfl, ⟨hp, ho, n1, nt, vo⟩, ⟨_, hq, _, _, vq⟩, rfl⟩, k⟩ := h
    have n7 := top7 nt
    refine ⟨_, (pss_cons (ps_par (i := 3) (j := 4) rfl sc_is_below.nd rfl rfl (by decide) rfl rfl (pa_cons (pv 1) (pa_cons (pv 2) pa_nil)) (by rfl))
      (pss_cons (ps_set (i := 5) sc_is_below.nd rfl (Or.inl rfl) (pc c_falls_of hr (pa_cons (pv 0) (pa_cons (pv 4) pa_nil))))
      (pss_cons (ps_while PassesOwn.never (pt_cmpR (op_neD hr.units) (pv 5) (pe_lst pa_nil) (nomark _)) (pss_cons (ps_par (i := 3) (j := 4) rfl sc_is_below.nd rfl rfl (by decide) rfl rfl (pa_cons (pc c_lesser hr (pa_cons (pv 0) (pa_cons (pv 3) (pa_cons (pe_ix ix_seq (pv 5) pe_int (fun _ _ => rfl)) pa_nil)))) (pa_cons (pc c_by_step hr (pa_cons (pv 0) (pa_cons (pv 4) (pa_cons (pe_ix ix_seq (pv 5) pe_int (fun _ _ => rfl)) pa_nil)))) pa_nil)) (by rfl))
      (pss_one (ps_set (i := 5) sc_is_below.nd rfl (Or.inl rfl) (pc c_falls_of hr (pa_cons (pv 0) (pa_cons (pv 4) pa_nil)))))))
      (pss_one (ps_ret (pe_cmpR (op_eqD hr.units) (pv 3) (pm0 m_start hr (pv 0)) (nomark _))))))), ?_⟩
    -- low, high = one, other
    refine ⟨_, rfl, _, rfl, _, _, rfl, ?_⟩
    refine q_asgL (el_falls rfl rfl hp hq n1 n7 vq) fun ps H1 hps e1 h1 => ?_
    refine q_while (fun m σ' H' => ∃ (lo hi : List Int) (pl ph ps : Addr), σ' = [some (.ref p), some (.ref a), some (.ref b), some (.ref pl), some (.ref ph), some (.ref ps)] ∧ Ex H H' ∧ Ls H' pl lo ∧ Ls H' ph hi ∧ Ls H' ps (nI (fls kn.m n hi)) ∧ Vd kn.m n lo ∧ Vd kn.m n hi ∧ ends kn.m n m hi = true ∧ blw kn.m n m lo hi = blw kn.m n 16 o q) 16
      ⟨o, q, a, b, ps, rfl, e1, e1 _ _ ho, e1 _ _ hq, h1, vo, vq, vq.ends nt, rfl⟩ ?_
    rintro m σ' H' ⟨lo, hi, pl, ph, ps, rfl, e, hl, hh, hf, vl, vh, en, hd⟩
    refine ⟨_, et_test (ev_opL (xs := ([] : List Int).map V.int) (ev_var rfl) (el_lst ea_nil (by decide)) fun q H4 hq e4 => rv_neL (e4 _ _ hf) hq), fun z H4 e4 => ?_, fun z H4 e4 => ?_⟩
    · rw [nI_nil] at z
      cases ef : fls kn.m n hi with
      | nil =>
        rw [ef] at z
        cases z
      | cons j t =>
        have hj := (mem_fls (m := kn.m) (n := n) (o := hi) (by rw [ef]; exact List.mem_cons_self)).1
        cases m with
        | zero =>
          unfold ends at en
          rw [ef] at en
          cases en
        | succ m =>
          unfold ends at en
          rw [ef] at en
          unfold blw at hd
          rw [ef] at hd
          have eix : ∀ (σ : L2.St) (H' : Hp), σ[5]? = some (some (.ref ps)) → Ls H' ps (nI (j :: t)) → Ev (tOp (rIx K) (tVar 5) (tC (.int 0))) σ H' (.int (j : Int)) := fun σ H' q1 q2 =>
            ev_op (ev_var q1) ev_c (rv_ix (.inl (sq_of q2)) (by decide) (by unfold nI; rw [List.length_map]; exact Int.natCast_pos.mpr (Nat.succ_pos _)))
          rw [ef] at hf
          have en2 : ends kn.m n m (stp kn.m hi j) = true := en
          have hd2 : blw kn.m n m (lss kn.m lo j) (stp kn.m hi j) = blw kn.m n 16 o q := hd
          have e5 := e.trans e4
          refine ⟨fun σ2 H2 => ∃ m', m' < m + 1 ∧ _, fun σ2 H2 h => h, ?_⟩
          -- low, high = lesser(kind, low, falls[0]), by_step(kind, high, falls[0])
          refine ⟨_, rfl, _, rfl, eix _ H4 rfl (e4 _ _ hf) H4 (Ex.refl H4) _ fun H5 e45 => ?_⟩
          refine ⟨p, pl, kn, n, j, lo, rfl, ⟨hp.mono (e5.trans e45), e45 _ _ (e4 _ _ hl), n7, vl, hj⟩, fun pl2 H6 e6 h6 => ?_⟩
          have e46 := e45.trans e6
          refine el_step (i1 := 0) (i2 := 4) (j := j) rfl rfl (eix _ _ rfl (e46 _ _ (e4 _ _ hf))) ⟨hp.mono (e5.trans e46), e46 _ _ (e4 _ _ hh), n7, vh, hj⟩ H6 (Ex.refl H6) _ fun ph2 H7 hph2 e7 h7 => ⟨_, _, rfl, ?_⟩
          have vh2 := vh.stp hj
          refine s_asgL (el_falls rfl rfl (hp.mono ((e5.trans e46).trans e7)) h7 n1 n7 vh2) fun ps2 H8 hps2 e8 h8 => ?_
          exact ⟨m, Nat.lt_succ_self m, lss kn.m lo j, stp kn.m hi j, pl2, ph2, ps2, rfl, ((e5.trans e46).trans e7).trans e8, e8 _ _ (e7 _ _ h6), e8 _ _ h7, h8, vl.lss hj, vh2, en2, hd2⟩
    · rw [nI_nil] at z
      cases ef : fls kn.m n hi with
      | cons j t =>
        rw [ef] at z
        cases z
      | nil =>
        have e0 : blw kn.m n m lo hi = lo := by
          cases m with
          | zero => rfl
          | succ m =>
            unfold blw
            rw [ef]
        rw [e0] at hd
        have e5 := e.trans e4
        refine s_ret (ev_opL (xs := (strt kn.m n).map V.int) (ev_var rfl) (el_start rfl (hp.mono e5) n7) fun u H5 hu e6 => rv_eqL (e6 _ _ (e4 _ _ hl)) hu) fun H5 e6 => ?_
        rw [hd]
        exact k H5 (e5.trans e6)
theorem ok_is_beneath {f : Addr} {fd : FuncData} (F : FnP K "is_beneath" "is_beneath" s_is_beneath f fd) (T : Tx K w mg C D) (c_check_two_orders : Cal P w K mg base 6 "check_two_orders" (sp_check_two_orders K C)) (c_is_below : Cal P w K mg base 4 "is_below" (sp_is_below K C)) : FnOk P w K mg base CX0 7 f fd ["kind", "one", "other"] (sp_is_beneath K C) := by
  refine fn0 F sc_is_beneath (fun vs H Q E h => ?_) (fun cdv A outer s H vs Q E hr h => ?_)
  · obtain ⟨v, ⟨p, a, b, kn, n, o, q, rfl, _⟩, k⟩ := h
    rfl
  · obtain ⟨v, ⟨p, a, b, kn, n, o, q, rfl, ho, hq, rfl⟩, k⟩ := h
    refine ⟨_, (pss_cons (ps_expr (pc c_check_two_orders hr (pa_cons (pv 0) (pa_cons (pv 1) (pa_cons (pv 2) pa_nil)))))
      (pss_one (ps_ret (pc c_is_below hr (pa_cons (pv 0) (pa_cons (pv 1) (pa_cons (pv 2) pa_nil))))))), ?_⟩
    exact q_drop (ev_call (ea_cons (ev_var rfl) (ea_cons (ev_var rfl) (ea_cons (ev_var rfl) ea_nil))) (PV.sp fun H1 e => ⟨p, a, b, kn, n, o, q, rfl, ho.mono e, hq.mono e, rfl⟩)) fun H1 e1 => s_ret (ev_call (ea_cons (ev_var rfl) (ea_cons (ev_var rfl) (ea_cons (ev_var rfl) ea_nil))) (PV.sp fun H2 e2 => ⟨p, a, b, kn, n, o, q, rfl, ho.mono (e1.trans e2), hq.mono (e1.trans e2), rfl⟩)) fun H2 e2 => k H2 (e1.trans e2)
theorem ok_power {f : Addr} {fd : FuncData} (F : FnP K "power" "power" s_power f fd) (T : Tx K w mg C D) (c_check_one : Cal P w K mg base 6 "check_one" (sp_check_one K C)) (c_check_number : Cal P w K mg base 3 "check_number" (sp_check_number K C)) (m_start : Met P w K mg base 1 C "start" (sp_K_start K C)) (c_greedy_of : Cal P w K mg base 5 "greedy_of" (sp_greedy_of K C)) : FnOk P w K mg base CX0 7 f fd ["kind", "order", "count"] (sp_power K C) := by
  refine fn0 F sc_power (fun vs H Q E h => ?_) (fun cdv A outer s H vs Q E hr h => ?_)
  · obtain ⟨v, ⟨p, a, kn, n, c, o, rfl, _⟩, k⟩ := h
    rfl
  · obtain ⟨v, ⟨p, a, kn, n, c, o, rfl, ho, hc, rfl⟩, k⟩ := h
    obtain ⟨hp, hl, n1, nt, vo⟩ := id ho
    have n7 := top7 nt
    refine ⟨_, (pss_cons (ps_expr (pc c_check_one hr (pa_cons (pv 0) (pa_cons (pv 1) pa_nil))))
      (pss_cons (ps_expr (pc c_check_number hr (pa_cons (pv 2) (pa_cons pe_int (pa_cons (pgi T.MOST_COUNT) pa_nil)))))
      (pss_cons (ps_set (i := 3) sc_power.nd rfl (Or.inl rfl) (pm0 m_start hr (pv 0)))
      (pss_cons (ps_for PassesOwn.never rfl (pi_range1 rfl T.b_range (pa_cons (pv 2) pa_nil)) (pg_name (i := 4) sc_power.nd rfl (Or.inl rfl))
      (pss_cons (ps_set (i := 5) sc_power.nd rfl (Or.inl rfl) (pc c_greedy_of hr (pa_cons (pv 0) (pa_cons (pv 3) (pa_cons (pv 1) pa_nil)))))
      (pss_cons (ps_if (pt_cmpR (op_eqD hr.units) (pv 5) (pv 3) (nomark _)) (pss_one (ps_ret (pv 3))) pss_nil)
      (pss_one (ps_set (i := 3) sc_power.nd rfl (Or.inl rfl) (pv 5))))))
      (pss_one (ps_ret (pv 3))))))), ?_⟩
    refine q_drop (ev_c1 rfl rfl ho) fun H1 e1 => q_drop (v := .non) (ev_call (vs := [.int c, .int 0, .int 1000]) (ea_cons (ev_var rfl) (ea_cons ev_c (ea_cons ev_c ea_nil))) (PV.sp fun H2 _ => ⟨c, 0, .int 1000, rfl, by omega, .inr ⟨1000, rfl, by omega⟩, rfl⟩)) fun H2 e2 => ?_
    have e12 := e1.trans e2
    refine q_asgL (el_start rfl (hp.mono e12) n7) fun l H3 hl0 e3 h3 => ?_
    have e13 := e12.trans e3
    refine q_forR1 (n := (c : Int)) (ea_cons (ev_var rfl) ea_nil) ⟨by omega, by omega⟩ (fun i σ' H' => ∃ (f : List Int) (pl : Addr) (x4 x5 : Option V), σ' = [some (.ref p), some (.ref a), some (.int c), some (.ref pl), x4, x5] ∧ H pl = none ∧ Ex H H' ∧ Ls H' pl f ∧ Vd kn.m n f ∧ i ≤ c ∧ powGo kn.m n o (c - i) f = pow kn.m n o c)
      (fun H4 e4 => ⟨strt kn.m n, l, none, none, rfl, fresh_back e12 hl0, e13.trans e4, e4 _ _ h3, vd_strt _ _, Nat.zero_le _, (powGo_pow c 0).trans (by rw [Nat.zero_add])⟩) ?_ ?_
    · rintro i σ' H' hi ⟨f, pl, x4, x5, rfl, hn, e, hf, vf, hic, hg⟩
      have ic : i < c := by omega
      refine q_asgL (el_greedy rfl rfl rfl ⟨hp.mono e, hf, n1, nt, vf⟩ (ho.mono e)) fun q H4 hq e4 h4 => ?_
      refine q_when (et_test (ev_op (ev_var rfl) (ev_var rfl) (rv_eqL h4 (e4 _ _ hf)))) (fun z H5 e5 => ?_) (fun z H5 e5 => ?_)
      · have z := of_decide_eq_true z
        rw [powGo_fix z] at hg
        subst hg
        exact s_ret (ev_var rfl) fun H6 e6 => k pl H6 hn (e.trans (e4.trans (e5.trans e6))) (e6 _ _ (e5 _ _ (e4 _ _ hf)))
      · have z := of_decide_eq_false z
        refine s_asg (ev_var rfl) fun H6 e6 => ⟨grd kn.m n f o, q, _, _, rfl, fresh_back e hq, e.trans (e4.trans (e5.trans e6)), e6 _ _ (e5 _ _ h4), vf.grd, ic, ?_⟩
        obtain ⟨d, hd⟩ : ∃ d, c - i = d + 1 := ⟨c - i - 1, by omega⟩
        rw [hd] at hg
        rw [show c - (i + 1) = d by omega, ← hg]
        conv => rhs; unfold powGo
        rw [if_neg z]
    · rintro σ' H' ⟨f, pl, x4, x5, rfl, hn, e, hf, vf, hic, hg⟩
      rw [Int.toNat_natCast, Nat.sub_self] at hg
      have hg2 : f = pow kn.m n o c := hg
      subst hg2
      exact s_ret (ev_var rfl) fun H6 e6 => k pl H6 hn (e.trans e6) (e6 _ _ hf)
/-- check_orders(kind, [order]) -/
theorem ev_cos1 {σ : L2.St} {H : Hp} {i j : Nat} {p a : Addr} {kn : Kn} {n : Nat} {o : List Int} (h : σ[i]? = some (some (.ref p))) (hj : σ[j]? = some (some (.ref a))) (ho : OrdAt C H p a kn n o) : Ev (tCall (sp_check_orders K C) [] E0 (tCons (tVar i) (tCons (tLst (tCons (tVar j) tNil)) tNil))) σ H .non :=
  fun H1 e1 Q q => ⟨_, h, _, hj, by show 1 ≤ sizeLine; decide, fun l hl => ⟨_, ⟨p, l, kn, n, [a], rfl, ho.1.mono (e1.trans (Ex.new hl)), upd_same, by show 1 ≤ 100; decide, fun b hb => ⟨o, by
    rw [List.mem_singleton.mp hb]
    exact ho.mono (e1.trans (Ex.new hl))⟩, rfl⟩, fun H2 e2 => q H2 ((Ex.new hl).trans e2)⟩⟩
theorem ev_cos2 {σ : L2.St} {H : Hp} {i j j2 : Nat} {p a b : Addr} {kn : Kn} {n : Nat} {o o2 : List Int} (h : σ[i]? = some (some (.ref p))) (hj : σ[j]? = some (some (.ref a))) (hj2 : σ[j2]? = some (some (.ref b))) (ho : OrdAt C H p a kn n o) (ho2 : OrdAt C H p b kn n o2) :
    Ev (tCall (sp_check_orders K C) [] E0 (tCons (tVar i) (tCons (tLst (tCons (tVar j) (tCons (tVar j2) tNil))) tNil))) σ H .non :=
  fun H1 e1 Q q => ⟨_, h, _, hj, _, hj2, by show 2 ≤ sizeLine; decide, fun l hl => ⟨_, ⟨p, l, kn, n, [a, b], rfl, ho.1.mono (e1.trans (Ex.new hl)), upd_same, by show 2 ≤ 100; decide, fun c hc => by
    rcases List.mem_cons.mp hc with rfl | hc
    · exact ⟨o, ho.mono (e1.trans (Ex.new hl))⟩
    · rw [List.mem_singleton.mp hc]
      exact ⟨o2, ho2.mono (e1.trans (Ex.new hl))⟩, rfl⟩, fun H2 e2 => q H2 ((Ex.new hl).trans e2)⟩⟩
theorem ok_crossings {f : Addr} {fd : FuncData} (F : FnP K "crossings" "crossings" s_crossings f fd) (T : Tx K w mg C D) (c_check_orders : Cal P w K mg base 6 "check_orders" (sp_check_orders K C)) (c_crossings_of : Cal P w K mg base 3 "crossings_of" (sp_crossings_of K C)) : FnOk P w K mg base CX0 7 f fd ["kind", "order"] (sp_crossings K C) := by
  refine fn0 F sc_crossings (fun vs H Q E h => ?_) (fun cdv A outer s H vs Q E hr h => ?_)
  · obtain ⟨v, ⟨p, a, kn, n, o, rfl, _⟩, k⟩ := h
    rfl
  · obtain ⟨v, ⟨p, a, kn, n, o, rfl, ho, rfl⟩, k⟩ := h
    refine ⟨_, (pss_cons (ps_expr (pc c_check_orders hr (pa_cons (pv 0) (pa_cons (pe_lst (pa_cons (pv 1) pa_nil)) pa_nil))))
      (pss_one (ps_ret (pc c_crossings_of hr (pa_cons (pv 0) (pa_cons (pv 1) pa_nil)))))), ?_⟩
    exact q_drop (ev_cos1 rfl rfl ho) fun H1 e1 => s_ret (ev_call (ea_cons (ev_var rfl) (ea_cons (ev_var rfl) ea_nil)) (PV.sp fun H2 e2 => ⟨p, a, kn, n, o, rfl, ho.1.mono (e1.trans e2), (e1.trans e2) _ _ ho.2.1, top7 ho.2.2.2.1, ho.2.2.2.2, rfl⟩)) fun H2 e2 => k H2 (e1.trans e2)
theorem ok_falls {f : Addr} {fd : FuncData} (F : FnP K "falls" "falls" s_falls f fd) (T : Tx K w mg C D) (c_check_orders : Cal P w K mg base 6 "check_orders" (sp_check_orders K C)) (c_falls_of : Cal P w K mg base 3 "falls_of" (sp_falls_of K C)) : FnOk P w K mg base CX0 7 f fd ["kind", "order"] (sp_falls K C) := by
  refine fn0 F sc_falls (fun vs H Q E h => ?_) (fun cdv A outer s H vs Q E hr h => ?_)
  · obtain ⟨v, ⟨p, a, kn, n, o, rfl, _⟩, k⟩ := h
    rfl
  · obtain ⟨v, ⟨p, a, kn, n, o, rfl, ho, rfl⟩, k⟩ := h
    refine ⟨_, (pss_cons (ps_expr (pc c_check_orders hr (pa_cons (pv 0) (pa_cons (pe_lst (pa_cons (pv 1) pa_nil)) pa_nil))))
      (pss_one (ps_ret (pc c_falls_of hr (pa_cons (pv 0) (pa_cons (pv 1) pa_nil)))))), ?_⟩
    exact q_drop (ev_cos1 rfl rfl ho) fun H1 e1 => s_retL (el_falls rfl rfl (ho.1.mono e1) (e1 _ _ ho.2.1) ho.2.2.1 (top7 ho.2.2.2.1) ho.2.2.2.2) fun u H2 hu e2 h2 => k.go e1 hu e2 h2
theorem ok_opposite {f : Addr} {fd : FuncData} (F : FnP K "opposite" "opposite" s_opposite f fd) (T : Tx K w mg C D) (c_check_orders : Cal P w K mg base 6 "check_orders" (sp_check_orders K C)) (c_opposite_of : Cal P w K mg base 2 "opposite_of" (sp_opposite_of K C)) : FnOk P w K mg base CX0 7 f fd ["kind", "order"] (sp_opposite K C) := by
  refine fn0 F sc_opposite (fun vs H Q E h => ?_) (fun cdv A outer s H vs Q E hr h => ?_)
  · obtain ⟨v, ⟨p, a, kn, n, o, rfl, _⟩, k⟩ := h
    rfl
  · obtain ⟨v, ⟨p, a, kn, n, o, rfl, ho, rfl⟩, k⟩ := h
    refine ⟨_, (pss_cons (ps_expr (pc c_check_orders hr (pa_cons (pv 0) (pa_cons (pe_lst (pa_cons (pv 1) pa_nil)) pa_nil))))
      (pss_one (ps_ret (pc c_opposite_of hr (pa_cons (pv 0) (pa_cons (pv 1) pa_nil)))))), ?_⟩
    exact q_drop (ev_cos1 rfl rfl ho) fun H1 e1 => s_retL (el_call (ea_cons (ev_var rfl) (ea_cons (ev_var rfl) ea_nil)) (PL.sp fun H2 e2 => ⟨p, a, kn, n, o, rfl, ho.1.mono (e1.trans e2), (e1.trans e2) _ _ ho.2.1, top7 ho.2.2.2.1, ho.2.2.2.2, rfl⟩)) fun u H2 hu e2 h2 => k.go e1 hu e2 h2
theorem ok_product {f : Addr} {fd : FuncData} (F : FnP K "product" "product" s_product f fd) (T : Tx K w mg C D) (c_check_orders : Cal P w K mg base 6 "check_orders" (sp_check_orders K C)) (c_product_of : Cal P w K mg base 3 "product_of" (sp_product_of K C)) : FnOk P w K mg base CX0 7 f fd ["kind", "one", "other"] (sp_product K C) := by
  refine fn0 F sc_product (fun vs H Q E h => ?_) (fun cdv A outer s H vs Q E hr h => ?_)
  · obtain ⟨v, ⟨p, a, b, kn, n, o, q, rfl, _⟩, k⟩ := h
    rfl
  · obtain ⟨v, ⟨p, a, b, kn, n, o, q, rfl, ho, hq, rfl⟩, k⟩ := h
    refine ⟨_, (pss_cons (ps_expr (pc c_check_orders hr (pa_cons (pv 0) (pa_cons (pe_lst (pa_cons (pv 1) (pa_cons (pv 2) pa_nil))) pa_nil))))
      (pss_one (ps_ret (pc c_product_of hr (pa_cons (pv 0) (pa_cons (pv 1) (pa_cons (pv 2) pa_nil))))))), ?_⟩
    exact q_drop (ev_cos2 rfl rfl rfl ho hq) fun H1 e1 => s_retL (el_call (ea_cons (ev_var rfl) (ea_cons (ev_var rfl) (ea_cons (ev_var rfl) ea_nil))) (PL.sp fun H2 e2 => ⟨p, a, b, kn, n, o, q, rfl, ho.1.mono (e1.trans e2), (e1.trans e2) _ _ ho.2.1, (e1.trans e2) _ _ hq.2.1, top7 ho.2.2.2.1, ho.2.2.2.2, hq.2.2.2.2, rfl⟩)) fun u H2 hu e2 h2 => k.go e1 hu e2 h2
end
end SL

set_option Elab.async false
set_option linter.all false
set_option maxRecDepth 100000
set_option maxHeartbeats 4000000
namespace SL
open PySem PySem.Spec PyProof.Rows L2 Evl
abbrev s_unfolded : Stmt := tp 27
abbrev N_unfolded : List Str := ["order", "size", "items", "item"]
theorem sc_unfolded : FnScope N_unfolded ["order", "size"] (defScope s_unfolded) := ⟨rfl, rfl, rfl, by decide +kernel, rfl, by decide +kernel, by decide +kernel⟩
abbrev s_folded : Stmt := tp 28
abbrev N_folded : List Str := ["order", "size", "at", "rank"]
theorem sc_folded : FnScope N_folded ["order", "size"] (defScope s_folded) := ⟨rfl, rfl, rfl, by decide +kernel, rfl, by decide +kernel, by decide +kernel⟩
def sp_unfolded (K : PySem.W.Frag) (C : Addr) : Sp := PL fun vs H xs => ∃ (a : Addr) (n : Nat) (o : List Int), vs = [.ref a, .int n] ∧ Ls H a o ∧ 1 ≤ n ∧ n ≤ 3 ∧ Vd true n o ∧ xs = (unf n o).map V.int
def sp_folded (K : PySem.W.Frag) (C : Addr) : Sp := fun vs H Q _ => ∃ (a : Addr) (n : Nat) (o : List Int), vs = [.ref a, .int n] ∧ Ls H a o ∧ 1 ≤ n ∧ n ≤ 3 ∧ Vd false (2 * n) o ∧
  ((sym n o = true ∧ RetL ((fld n o).map V.int) H Q) ∨ (sym n o = false ∧ RetV .non H Q))
section
variable {P : Program} {w : World} {K : PySem.W.Frag} {mg : Str → Option Value} {base : Heap} {C D : Addr}
/-- Kind(name, size): a new one -/
def EvK (C : Addr) (te : TE) (σ : L2.St) (H : Hp) (k : Kn) (n : Nat) : Prop := ∀ H1, Ex H H1 → ∀ Q : VK, (∀ p H2, H1 p = none → Ex H1 H2 → KindAt C H2 p k n → Q (.ref p) H2) → te σ H1 Q
theorem ek_make {σ : L2.St} {H : Hp} {ta : TA} {k : Kn} {n : Nat} (h : EvA ta σ H [.str k.s, .int n]) (hk : kinOk k n) : EvK C (tMake C (sp_K_init K C) [] E0 ta) σ H k n := fun H1 e Q q => h H1 e _ fun H2 e2 => fun x dx hx hdx hne =>
  ⟨x, dx, k, n, rfl, upd_same, hk, fun H' hK hrest => ⟨rfl, q x H' (fresh_back e2 hx) (fun b o hb => by
    have hb2 := e2 _ _ hb
    refine hrest b o ?_ (ne_of_none hb2 hx)
    rw [upd_ne (ne_of_none hb2 hx), upd_ne (ne_of_none hb2 hdx)]
    exact hb2) hK⟩⟩
/-- is_let_order(Kind(..), order) -/
theorem ev_lets {σ : L2.St} {H : Hp} {ta : TA} {k : Kn} {n i : Nat} {a : Addr} {o : List Int} (h : EvA ta σ H [.str k.s, .int n]) (hk : kinOk k n) (hi : σ[i]? = some (some (.ref a))) (ho : Ls H a o) (n1 : 1 ≤ n) (nt : n ≤ top k.m) (v : Vd k.m n o) :
    Ev (tCall (sp_is_let_order K C) [] E0 (tCons (tMake C (sp_K_init K C) [] E0 ta) (tCons (tVar i) tNil))) σ H (.bl true) := fun H1 e Q q => by
  unfold tCall tCons
  exact ek_make h hk H1 e _ fun p H2 hp e2 hK => ⟨_, hi, _, ⟨p, a, k, n, o, rfl, ⟨hK, (e.trans e2) _ _ ho, n1, nt, v⟩, rfl⟩, fun H3 e3 => q H3 (e2.trans e3)⟩
theorem lc_rev {a : Addr} {xs : List V} {g : TG} {tt : TT} {te : TE} {vs : List Nat} {σ : L2.St} {H1 : Hp} {Dl : Addr} {Qd : Hp → Prop} (Pv : Nat → Hp → Prop) (h0 : Pv 0 (L2.upd H1 Dl (.lst []))) (hl : ∀ i H, i ≤ xs.length → Pv i H → SqL K H a xs)
    (hs : ∀ i x H, xs.reverse[i]? = some x → Pv i H → g x (wipe σ vs) H fun σ2 H2 => wipe σ2 vs = wipe σ vs ∧ tt σ2 H2 fun b H3 =>
      if b = true then te σ2 H3 fun y H4 => ∃ acc, H4 Dl = some (.lst acc) ∧ acc.length < sizeLine ∧ Pv (i + 1) (L2.upd H4 Dl (.lst (acc ++ [y]))) else Pv (i + 1) H3) (hd : ∀ H, Pv xs.length H → Qd H) :
    ∃ W : Nat → Nat → Hp → Prop, (∃ m, W 0 m (L2.upd H1 Dl (.lst []))) ∧ ∀ i m H, W i m H →
      ((Itv K a xs.length).stop i H ∧ Qd H) ∨ ((Itv K a xs.length).go i H ∧ ∃ Nx : Hp → Prop, (∀ H', Nx H' → ∃ m', m' < m ∧ W (i + 1) m' H') ∧ ∀ x H', (Itv K a xs.length).yld i H x H' → g x (wipe σ vs) H' fun σ2 H2 => wipe σ2 vs = wipe σ vs ∧ tt σ2 H2 fun b H3 =>
        if b = true then te σ2 H3 fun y H4 => ∃ acc, H4 Dl = some (.lst acc) ∧ acc.length < sizeLine ∧ Nx (L2.upd H4 Dl (.lst (acc ++ [y]))) else Nx H3) := by
  refine ⟨fun j r H' => r = xs.length - j ∧ j ≤ xs.length ∧ Pv j H', ⟨xs.length, (Nat.sub_zero _).symm, Nat.zero_le _, h0⟩, fun i m H z => ?_⟩
  obtain ⟨rfl, hi, p⟩ := z
  have q := hl i H hi p
  by_cases hlt : i < xs.length
  · refine .inr ⟨⟨hlt, xs, xs[xs.length - 1 - i]'(by omega), q, List.getElem?_eq_getElem (by omega)⟩, Pv (i + 1), fun H' p' => ⟨xs.length - (i + 1), by omega, rfl, hlt, p'⟩, fun x H' y => ?_⟩
    obtain ⟨e, y⟩ := y
    subst e
    refine hs i x _ ?_ p
    rw [List.getElem?_reverse hlt]
    exact y xs q
  · have e : i = xs.length := by omega
    subst e
    exact .inl ⟨Nat.le_refl _, hd H p⟩
/-- [g(x) for x in reversed(o)] -/
theorem el_mapR {σ : L2.St} {H : Hp} {a : Addr} {o : List Int} {j : Nat} {vs : List Nat} {te : TE} {ta : TA} (g : Int → V) (h : EvA ta σ H [.ref a]) (hx : SqL K H a (o.map V.int)) (hz : o.length ≤ 40000) (hw : ∀ x, wipe ((wipe σ vs).set j (some x)) vs = wipe σ vs)
    (he : ∀ (i : Int) H1, Ex H H1 → i ∈ o → Ev te ((wipe σ vs).set j (some (.int i))) H1 (g i)) : EvL (tLc (iRev K ta) (gName j) tYes te vs) σ H (o.reverse.map g) := fun H0 e Q q => h H0 e _ fun H1 e1 => ⟨a, o.map V.int, rfl, ex_l (e.trans e1) hx, fun Dl hD => by
  refine lc_rev (xs := o.map V.int) (Cw H1 (fun _ => true) (fun i => g (gd o.reverse i)) Dl) ⟨hD, Ex.new hD, upd_same⟩ (fun i H' _ p => ex_l ((e.trans e1).trans p.2.1) hx) (fun i x H' hi p => ?_) (fun H' p => q Dl H' (fresh_back e1 p.1) (e1.trans p.2.1) ?_)
  · rw [← List.map_reverse] at hi
    obtain ⟨hil, rfl, hm⟩ := get_int hi
    rw [List.length_reverse] at hil
    exact ⟨hw _, cw_turn p (by omega) et_yes fun _ => he _ H1 (e.trans e1) (List.mem_reverse.mp hm)⟩
  · have p3 := p.2.2
    rw [List.length_map] at p3
    have := given_map o.reverse g
    rw [List.length_reverse] at this
    rw [this] at p3
    exact p3⟩
theorem ok_unfolded {f : Addr} {fd : FuncData} (F : FnP K "unfolded" "unfolded" s_unfolded f fd) (T : Tx K w mg C D) (c_check_number : Cal P w K mg base 3 "check_number" (sp_check_number K C)) (c_is_let_order : Cal P w K mg base 4 "is_let_order" (sp_is_let_order K C)) (k_Kind : Mak P w K mg base 4 "Kind" C (sp_K_init K C)) : FnOk P w K mg base CX0 6 f fd ["order", "size"] (sp_unfolded K C) := by
  refine fn0 F sc_unfolded (fun vs H Q E h => ?_) (fun cdv A outer s H vs Q E hr h => ?_)
  · obtain ⟨v, ⟨a, n, o, rfl, _⟩, k⟩ := h
    rfl
  · obtain ⟨v, ⟨a, n, o, rfl, ho, n1, n3, vo, rfl⟩, k⟩ := h
    refine ⟨_, (pss_cons (ps_expr (pc c_check_number hr (pa_cons (pv 1) (pa_cons pe_int (pa_cons (pgi T.MOST_SIZE) pa_nil)))))
      (pss_cons (ps_if (pt_not (pt_val (pc c_is_let_order hr (pa_cons (pmk k_Kind hr (pa_cons pe_str (pa_cons (pv 1) pa_nil))) (pa_cons (pv 0) pa_nil))))) pss_never pss_nil)
      (pss_cons (ps_set (i := 2) sc_unfolded.nd rfl (Or.inl rfl) (pe_op op_cat (pe_lc (own := [("item", 3)]) (g := gName 3) (tt := tYes) (by rfl) sc_unfolded.nd (pi_reversed (by rfl) T.b_reversed (pa_cons (pv 0) pa_nil)) (blkOk_by (own := [("item", 3)]) (N := N_unfolded) (sc := defScope s_unfolded) (by decide +kernel)) (fun _ _ _ _ _ => pg_name (i := 3) sc_unfolded.nd rfl (Or.inl rfl)) (fun _ _ _ _ _ => pts_nil) (fun _ _ _ _ _ => (pe_un un_neg (pv 3)))) (pe_callTy call_list_of (by rfl) T.b_list (by decide +kernel) (pa_cons (pv 0) pa_nil))))
      (pss_one (ps_ret (pe_lc (own := [("item", 3)]) (g := gName 3) (tt := tYes) (by rfl) sc_unfolded.nd (pi_list (pv 2)) (blkOk_by (own := [("item", 3)]) (N := N_unfolded) (sc := defScope s_unfolded) (by decide +kernel)) (fun _ _ _ _ _ => pg_name (i := 3) sc_unfolded.nd rfl (Or.inl rfl)) (fun _ _ _ _ _ => pts_nil) (fun _ _ _ _ _ => (pe_op op_sub (pe_op op_add (pv 3) (pv 1)) (pe_callTy call_int1 (by rfl) T.b_int (by decide +kernel) (pa_cons (pe_cmpR op_gt (pv 3) pe_int (nomark _)) pa_nil)))))))))), ?_⟩
    have lo := vo.len
    refine q_drop (v := .non) (ev_call (vs := [.int n, .int 1, .int 3]) (ea_cons (ev_var rfl) (ea_cons ev_c (ea_cons ev_c ea_nil))) (PV.sp fun H2 _ => ⟨n, 1, .int 3, rfl, by omega, .inr ⟨3, rfl, by omega⟩, rfl⟩)) fun H1 e1 => ?_
    refine q_when (b := false) (et_not (a := true) (et_B (ev_lets (k := .mi) (n := n) (ea_cons ev_c (ea_cons (ev_var rfl) ea_nil)) ⟨n1, by show n ≤ 5; omega⟩ rfl (e1 _ _ ho) n1 n3 vo))) (fun z => by cases z) fun _ H2 e2 => ?_
    have e12 := e1.trans e2
    have e0 : o.reverse.map (fun x => V.int (-x)) ++ o.map V.int = (o.reverse.map (fun x => -x) ++ o).map V.int := by
      rw [List.map_append, List.map_map]
      rfl
    refine q_asgL (el_cat (el_mapR (fun x => V.int (-x)) (ea_cons (ev_var rfl) ea_nil) (sq_of (e12 _ _ ho)) (by omega) (fun _ => rfl) fun i H3 e3 hi => ev_un (ev_var rfl) ru_neg) (el_list (ev_var rfl) (sq_of (e12 _ _ ho))) (by rw [List.length_map, List.length_reverse]; omega) (by rw [List.length_map]; omega)) fun l H3 hl0 e3 h3 => ?_
    rw [e0] at h3
    have e4 : (unf n o).map V.int = (o.reverse.map (fun x => -x) ++ o).map fun x => V.int (x + (n : Int) - b2z (decide (0 < x))) := by
      unfold unf
      rw [List.map_map]
      rfl
    rw [e4] at k
    exact s_retL (el_map (fun x => V.int (x + (n : Int) - b2z (decide (0 < x)))) (ev_var rfl) (sq_of h3) (by rw [List.length_append, List.length_map, List.length_reverse]; omega) (fun _ => rfl) fun i H5 e5 hi => ev_op (ev_op (ev_var rfl) (ev_var rfl) rv_I0) (ev_intB (ev_op (ev_var rfl) ev_c rv_I0)) rv_I0) fun u H5 hu e5 h5 => k.go (e12.trans e3) hu e5 h5
/-- the places where the two ends don't fit -/
def unfit (n : Nat) (o : List Int) : List Nat := (List.range n).filter fun i => !decide (gd o i + gd o (2 * n - 1 - i) = 2 * (n : Int) - 1)
theorem unfit_nil (n : Nat) (o : List Int) : decide (unfit n o = []) = sym n o := by
  unfold unfit sym
  cases h : (List.range n).all fun i => decide (gd o i + gd o (2 * n - 1 - i) = 2 * (n : Int) - 1) with
  | true =>
    refine decide_eq_true (List.filter_eq_nil_iff.mpr fun i hi => ?_)
    rw [List.all_eq_true.mp h i hi]
    exact Bool.false_ne_true
  | false =>
    refine decide_eq_false fun e => ?_
    have : ((List.range n).all fun i => decide (gd o i + gd o (2 * n - 1 - i) = 2 * (n : Int) - 1)) = true := List.all_eq_true.mpr fun i hi => by
      have := List.filter_eq_nil_iff.mp e i hi
      cases hd : decide (gd o i + gd o (2 * n - 1 - i) = 2 * (n : Int) - 1) with
      | true => rfl
      | false =>
        rw [hd] at this
        exact absurd rfl this
    rw [h] at this
    cases this
theorem given_nI (n : Nat) (f : Nat → Bool) : given n f (fun i => V.int (i : Int)) = (nI ((List.range n).filter f)).map V.int := by
  unfold nI given
  rw [List.map_map]
  rfl
/-- [at for at in range(size) if order[at] + order[2 * size - 1 - at] != 2 * size - 1] -/
theorem el_unfit {σ : L2.St} {H : Hp} {a : Addr} {n i1 i2 j : Nat} {o : List Int} {ta : TA} (hta : EvA ta σ H [.int (n : Int)]) (hn : n ≤ 7) (h1 : ∀ x, ((wipe σ [j]).set j x)[i1]? = some (some (.ref a))) (h2 : ∀ x, ((wipe σ [j]).set j x)[i2]? = some (some (.int (n : Int)))) (hj : ∀ x, ((wipe σ [j]).set j (some x))[j]? = some (some x)) (hw : ∀ x, wipe ((wipe σ [j]).set j (some x)) [j] = wipe σ [j])
    (ho : Ls H a o) (hl : o.length = 2 * n) :
    EvL (tLc (iRng1 ta) (gName j) (tTest (tOp rNe (tOp (rI0 fun i j => .int (i + j)) (tOp (rIx K) (tVar i1) (tVar j)) (tOp (rIx K) (tVar i1) (tOp (rI0 fun i j => .int (i - j)) (tOp (rI0 fun i j => .int (i - j)) (tOp (rI CMul fun i j => .int (i * j)) (tC (.int 2)) (tVar i2)) (tC (.int 1))) (tVar j))))
      (tOp (rI0 fun i j => .int (i - j)) (tOp (rI CMul fun i j => .int (i * j)) (tC (.int 2)) (tVar i2)) (tC (.int 1))))) (tVar j) [j]) σ H ((nI (unfit n o)).map V.int) := by
  have e := el_lcR1 (σ := σ) (H := H) (ta := ta) (j := j) (vs := [j]) (n := (n : Int)) (te := tVar j) (fun i => !decide (gd o i + gd o (2 * n - 1 - i) = 2 * (n : Int) - 1)) (fun i => V.int (i : Int)) hta ⟨by omega, by omega⟩ hw
    (t := (tTest (tOp rNe (tOp (rI0 fun i j => .int (i + j)) (tOp (rIx K) (tVar i1) (tVar j)) (tOp (rIx K) (tVar i1) (tOp (rI0 fun i j => .int (i - j)) (tOp (rI0 fun i j => .int (i - j)) (tOp (rI CMul fun i j => .int (i * j)) (tC (.int 2)) (tVar i2)) (tC (.int 1))) (tVar j))))
      (tOp (rI0 fun i j => .int (i - j)) (tOp (rI CMul fun i j => .int (i * j)) (tC (.int 2)) (tVar i2)) (tC (.int 1))))))
    (fun i H1 e1 hi => by
      have sq : Sq K H1 a (o.map V.int) := .inl (sq_of (e1 _ _ ho))
      have two : Ev (tOp (rI0 fun i j => .int (i - j)) (tOp (rI CMul fun i j => .int (i * j)) (tC (.int 2)) (tVar i2)) (tC (.int 1))) ((wipe σ [j]).set j (some (.int (i : Int)))) H1 (.int (2 * (n : Int) - 1)) := ev_op (ev_op ev_c (ev_var (h2 _)) (rv_I (.inl ⟨by decide, by decide⟩))) ev_c rv_I0
      refine et_test (ev_is (ev_op (ev_op (ev_op (ev_var (h1 _)) (ev_var (hj _)) (rv_ix sq (by omega) (by omega))) (ev_op (ev_var (h1 _)) (ev_op two (ev_var (hj _)) rv_I0) (rv_ix sq (by omega) (by omega))) rv_I0) two (rv_ne rfl)) ?_)
      rw [dec_int, show ((i : Int)).toNat = i by omega, show (2 * (n : Int) - 1 - (i : Int)).toNat = 2 * n - 1 - i by omega]
      congr 2)
    (fun i H1 e1 hi _ => ev_var (hj _))
  rw [Int.toNat_natCast, given_nI] at e
  exact e
theorem ok_folded {f : Addr} {fd : FuncData} (F : FnP K "folded" "folded" s_folded f fd) (T : Tx K w mg C D) (c_check_number : Cal P w K mg base 3 "check_number" (sp_check_number K C)) (c_is_let_order : Cal P w K mg base 4 "is_let_order" (sp_is_let_order K C)) (k_Kind : Mak P w K mg base 4 "Kind" C (sp_K_init K C)) : FnOk P w K mg base CX0 6 f fd ["order", "size"] (sp_folded K C) := by
  refine fn0 F sc_folded (fun vs H Q E h => ?_) (fun cdv A outer s H vs Q E hr h => ?_)
  · obtain ⟨a, n, o, rfl, _⟩ := h
    rfl
  · obtain ⟨a, n, o, rfl, ho, n1, n3, vo, k⟩ := h
    refine ⟨_, (pss_cons (ps_expr (pc c_check_number hr (pa_cons (pv 1) (pa_cons pe_int (pa_cons (pgi T.MOST_SIZE) pa_nil)))))
      (pss_cons (ps_if (pt_not (pt_val (pc c_is_let_order hr (pa_cons (pmk k_Kind hr (pa_cons pe_str (pa_cons (pe_op op_mul pe_int (pv 1)) pa_nil))) (pa_cons (pv 0) pa_nil))))) pss_never pss_nil)
      (pss_cons (ps_if (pt_cmpR (op_neD hr.units) (pe_lc (own := [("at", 2)]) (g := gName 2) (by rfl) sc_folded.nd (pi_range1 rfl T.b_range (pa_cons (pv 1) pa_nil)) (blkOk_by (own := [("at", 2)]) (N := N_folded) (sc := defScope s_folded) (by decide +kernel)) (fun _ _ _ _ _ => pg_name (i := 2) sc_folded.nd rfl (Or.inl rfl)) (fun _ _ _ _ _ => (pts_one (pt_cmpR op_ne (pe_op op_add (pe_ix (ix_seqK (K := K) rfl) (pv 0) (pv 2) (fun _ _ => rfl)) (pe_ix (ix_seqK (K := K) rfl) (pv 0) (pe_op op_sub (pe_op op_sub (pe_op op_mul pe_int (pv 1)) pe_int) (pv 2)) (fun _ _ => rfl))) (pe_op op_sub (pe_op op_mul pe_int (pv 1)) pe_int) (nomark _)))) (fun _ _ _ _ _ => (pv 2))) (pe_lst pa_nil) (nomark _)) (pss_one (ps_ret pe_non)) pss_nil)
      (pss_one (ps_ret (pe_lc (own := [("rank", 3)]) (g := gName 3) (tt := tYes) (by rfl) sc_folded.nd (pi_list (pe_slice sl_list (pv 0) (po_some (pv 1)) po_none)) (blkOk_by (own := [("rank", 3)]) (N := N_folded) (sc := defScope s_folded) (by decide +kernel)) (fun _ _ _ _ _ => pg_name (i := 3) sc_folded.nd rfl (Or.inl rfl)) (fun _ _ _ _ _ => pts_nil) (fun _ _ _ _ _ => (pe_op op_add (pe_op op_sub (pv 3) (pv 1)) (pe_callTy call_int1 (by rfl) T.b_int (by decide +kernel) (pa_cons (pe_cmpR op_ge (pv 3) (pv 1) (nomark _)) pa_nil)))))))))), ?_⟩
    have lo := vo.len
    refine q_drop (v := .non) (ev_call (vs := [.int n, .int 1, .int 3]) (ea_cons (ev_var rfl) (ea_cons ev_c (ea_cons ev_c ea_nil))) (PV.sp fun H2 _ => ⟨n, 1, .int 3, rfl, by omega, .inr ⟨3, rfl, by omega⟩, rfl⟩)) fun H1 e1 => ?_
    refine q_when (b := false) (et_not (a := true) (et_B (ev_lets (k := .pl) (n := 2 * n) (ea_cons ev_c (ea_cons (ev_is (ev_op ev_c (ev_var rfl) (rv_I (.inl ⟨by decide, by decide⟩))) (by rw [Int.natCast_mul]; rfl)) ea_nil)) ⟨by show 1 ≤ 2 * n; omega, by show 2 * n ≤ 7; omega⟩ rfl (e1 _ _ ho) (by omega) (by show 2 * n ≤ 6; omega) vo))) (fun z => by cases z) fun _ H2 e2 => ?_
    have e12 := e1.trans e2
    refine q_when (b := !sym n o) (et_test (ev_is (ev_neLL (o := nI (unfit n o)) (p := []) (el_unfit (ea_cons (ev_var rfl) ea_nil) (by omega) (fun _ => rfl) (fun _ => rfl) (fun _ => rfl) (fun _ => rfl) (e12 _ _ ho) lo) (el_lst ea_nil (by decide))) (by rw [nI_nil, unfit_nil]))) (fun z H3 e3 => ?_) (fun z H3 e3 => ?_)
    · have z2 : sym n o = false := by simpa using z
      rcases k with ⟨q, _⟩ | ⟨_, k⟩
      · rw [z2] at q
        cases q
      · exact s_ret ev_c fun H4 e4 => k H4 ((e12.trans e3).trans e4)
    · have z2 : sym n o = true := by simpa using z
      rcases k with ⟨_, k⟩ | ⟨q, _⟩
      · have e4 : (fld n o).map V.int = (o.drop n).map fun r => V.int (r - (n : Int) + b2z (decide ((n : Int) ≤ r))) := by
          unfold fld
          rw [List.map_map]
          rfl
        rw [e4] at k
        refine s_retL (el_mapN (fun r => V.int (r - (n : Int) + b2z (decide ((n : Int) ≤ r)))) (by
          rw [List.map_drop, ← cut_drop]
          exact el_sl (ev_var rfl) (eo_some (ev_var rfl)) eo_none (sq_of ((e12.trans e3) _ _ ho))) (by rw [List.length_drop]; omega) (fun _ => rfl) fun i H5 e5 hi => ev_op (ev_op (ev_var rfl) (ev_var rfl) rv_I0) (ev_intB (ev_op (ev_var rfl) (ev_var rfl) rv_I0)) rv_I0) fun u H5 hu e5 h5 => k.go (e12.trans e3) hu e5 h5
      · rw [z2] at q
        cases q
end
end SL

set_option Elab.async false
set_option linter.all false
set_option maxRecDepth 100000
set_option maxHeartbeats 4000000
namespace SL
open PySem PySem.Spec PyProof.Rows L2 Evl
abbrev s_multiplied : Stmt := tp 53
abbrev N_multiplied : List Str := ["one", "other", "most", "found", "at", "low", "place", "high"]
theorem sc_multiplied : FnScope N_multiplied ["one", "other", "most"] (defScope s_multiplied) := ⟨rfl, rfl, rfl, by decide +kernel, rfl, by decide +kernel, by decide +kernel⟩
abbrev s_numbers_to : Stmt := tp 54
abbrev N_numbers_to : List Str := ["kind", "most", "found", "number", "at"]
theorem sc_numbers_to : FnScope N_numbers_to ["kind", "most"] (defScope s_numbers_to) := ⟨rfl, rfl, rfl, by decide +kernel, rfl, by decide +kernel, by decide +kernel⟩
abbrev s_how_many_orders : Stmt := tp 55
abbrev N_how_many_orders : List Str := ["kind", "crossings"]
theorem sc_how_many_orders : FnScope N_how_many_orders ["kind", "crossings"] (defScope s_how_many_orders) := ⟨rfl, rfl, rfl, by decide +kernel, rfl, by decide +kernel, by decide +kernel⟩
def small (o : List Int) : Prop := ∀ y ∈ o, -(2 ^ 64) < y ∧ y < 2 ^ 64
def sp_multiplied (K : PySem.W.Frag) (C : Addr) : Sp := PL fun vs H xs => ∃ (a b : Addr) (o q : List Int) (m : Nat), vs = [.ref a, .ref b, .int m] ∧ Ls H a o ∧ Ls H b q ∧ m ≤ 100 ∧ small q ∧ xs = (mul o q m).map V.int
def sp_numbers_to (K : PySem.W.Frag) (C : Addr) : Sp := PL fun vs H xs => ∃ (p : Addr) (n m : Nat), vs = [.ref p, .int m] ∧ KindAt C H p .pl n ∧ n ≤ 7 ∧ m ≤ 100 ∧ xs = (num m n).map V.int
def sp_how_many_orders (K : PySem.W.Frag) (C : Addr) : Sp := PV fun vs H v => ∃ (p : Addr) (n c : Nat), vs = [.ref p, .int c] ∧ KindAt C H p .pl n ∧ n ≤ 7 ∧ c ≤ 100 ∧ v = .int (many n c)
section
variable {P : Program} {w : World} {K : PySem.W.Frag} {mg : Str → Option Value} {base : Heap} {C D : Addr}
theorem ok_multiplied {f : Addr} {fd : FuncData} (F : FnP K "multiplied" "multiplied" s_multiplied f fd) (T : Tx K w mg C D)  : FnOk P w K mg base CX0 1 f fd ["one", "other", "most"] (sp_multiplied K C) := by
  refine fn0 F sc_multiplied (fun vs H Q E h => ?_) (fun cdv A outer s H vs Q E hr h => ?_)
  · obtain ⟨v, ⟨a, b, o, q, m, rfl, _⟩, k⟩ := h
    rfl
  · obtain ⟨v, ⟨a, b, o, q, m, rfl, ho, hq, hm, sq, rfl⟩, k⟩ := h
    refine ⟨_, (pss_cons (ps_set (i := 3) sc_multiplied.nd rfl (Or.inl rfl) (pe_op op_rep (pe_lst (pa_cons pe_int pa_nil)) (pe_op op_add (pv 2) pe_int)))
      (pss_cons (ps_for PassesOwn.never rfl (pi_enum (by rfl) T.b_enumerate (pa_cons (pv 0) pa_nil)) (pg_tup rfl (pgs_cons (pg_name (i := 4) sc_multiplied.nd rfl (Or.inl rfl)) (pgs_cons (pg_name (i := 5) sc_multiplied.nd rfl (Or.inl rfl)) pgs_nil)))
      (pss_one (ps_for PassesOwn.never rfl (pi_enum (by rfl) T.b_enumerate (pa_cons (pv 1) pa_nil)) (pg_tup rfl (pgs_cons (pg_name (i := 6) sc_multiplied.nd rfl (Or.inl rfl)) (pgs_cons (pg_name (i := 7) sc_multiplied.nd rfl (Or.inl rfl)) pgs_nil)))
      (pss_one (ps_if (pt_cmpR op_le (pe_op op_add (pv 4) (pv 6)) (pv 2) (nomark _)) (pss_one (ps_asg (pe_op op_add (pe_ix ix_seq (pv 3) (pe_op op_add (pv 4) (pv 6)) (fun _ _ => rfl)) (pe_op op_mul (pv 5) (pv 7))) (pg_sub (pv 3) (pe_op op_add (pv 4) (pv 6)) set_list))) pss_nil)))))
      (pss_one (ps_ret (pv 3))))), ?_⟩
    have e0 : (List.replicate (m + 1) [V.int 0]).flatten = (List.replicate (m + 1) (0 : Int)).map V.int := by
      rw [rep_one, List.map_replicate]
    refine q_asgL (el_rep (k := m + 1) (el_lst (ea_cons ev_c ea_nil) (by decide)) (fun H1 e1 => ev_is (ev_op (ev_var rfl) ev_c rv_I0) (by rw [Int.natCast_add]; rfl)) (by omega) (by decide)) fun l H1 hl0 e1 h1 => ?_
    rw [e0] at h1
    refine q_forE (xs := o.map V.int) (ea_cons (ev_var rfl) ea_nil) (sq_of (e1 _ _ ho)) (fun i σ' H' => ∃ (acc : List Int) (x4 x5 x6 x7 : Option V), σ' = [some (.ref a), some (.ref b), some (.int m), some (.ref l), x4, x5, x6, x7] ∧ Ex H H' ∧ Ls H' l acc ∧ acc.length = m + 1 ∧ mulGo m q (o.drop i) i acc = mul o q m)
      (fun H2 e2 => ⟨List.replicate (m + 1) 0, none, none, none, none, rfl, e1.trans e2, e2 _ _ h1, List.length_replicate, rfl⟩) (fun i σ' H' _ ⟨_, _, _, _, _, _, e, _⟩ => sq_of (e _ _ ho)) ?_ ?_
    · rintro i x σ' H' H2 hi ⟨acc, x4, x5, x6, x7, rfl, e, hl, la, hg⟩ e2
      obtain ⟨hil, rfl, _⟩ := get_int hi
      rw [drop_gd hil] at hg
      have e02 := e.trans e2
      refine s_forE (xs := q.map V.int) (ea_cons (ev_var rfl) ea_nil) (sq_of (e02 _ _ hq)) (fun j σ' H' => ∃ (acc2 : List Int) (y6 y7 : Option V), σ' = [some (.ref a), some (.ref b), some (.int m), some (.ref l), some (.int (i : Int)), some (.int (gd o i)), y6, y7] ∧ Ex H H' ∧ Ls H' l acc2 ∧ acc2.length = m + 1 ∧ mulIn m i (gd o i) (q.drop j) j acc2 = mulIn m i (gd o i) q 0 acc)
        (fun H3 e3 => ⟨acc, _, _, rfl, e02.trans e3, e3 _ _ (e2 _ _ hl), la, rfl⟩) (fun i σ' H' _ ⟨_, _, _, _, e, _⟩ => sq_of (e _ _ hq)) ?_ ?_
      · rintro j y σ' H' H3 hj ⟨acc2, y6, y7, rfl, e, hl, la, hg2⟩ e3
        obtain ⟨hjl, rfl, hym⟩ := get_int hj
        rw [drop_gd hjl] at hg2
        rw [mulIn.eq_2] at hg2
        refine s_when (b := decide (i + j ≤ m)) (et_test (ev_is (ev_op (ev_op (ev_var rfl) (ev_var rfl) rv_I0) (ev_var rfl) rv_I0) ?_)) (fun z H4 e4 => ?_) (fun z H4 e4 => ?_)
        · congr 1
          by_cases h : i + j ≤ m
          · rw [decide_eq_true h, decide_eq_true (by omega)]
          · rw [decide_eq_false h, decide_eq_false (by omega)]
        · have z := of_decide_eq_true z
          rw [if_pos z] at hg2
          have h4 := e4 _ _ (e3 _ _ hl)
          have hadd : ∀ σ : L2.St, σ[4]? = some (some (.int (i : Int))) → σ[6]? = some (some (.int (j : Int))) → Ev (tOp (rI0 fun i j => .int (i + j)) (tVar 4) (tVar 6)) σ H4 (.int ((i + j : Nat) : Int)) := fun σ q1 q2 => ev_is (ev_op (ev_var q1) (ev_var q2) rv_I0) (by rw [Int.natCast_add])
          refine s_setL (j := i + j) h4 (ev_op (ev_op (ev_var rfl) (hadd _ rfl rfl) (rv_ix (.inl (sq_of h4)) (by omega) (by omega))) (ev_op (ev_var rfl) (ev_var rfl) (rv_I (.inr (sq _ hym)))) rv_I0) (ev_var rfl) (hadd _ rfl rfl) (by rw [List.length_map]; omega) fun H5 e5 => ?_
          refine ⟨acc2.set (i + j) (gd acc2 (i + j) + gd o i * gd q j), _, _, rfl, Exl.ex (e.trans (e3.trans (e4.trans e5))) hl0 Exl.upd, ?_, by rw [List.length_set]; exact la, hg2⟩
          refine upd_same.trans ?_
          rw [← set_map]
          rfl
        · have z := of_decide_eq_false z
          rw [if_neg z] at hg2
          exact ⟨acc2, _, _, rfl, e.trans (e3.trans e4), e4 _ _ (e3 _ _ hl), la, hg2⟩
      · rintro σ' H' ⟨acc2, y6, y7, rfl, e, hl, la, hg2⟩
        rw [List.length_map, List.drop_length] at hg2
        have hg3 : acc2 = mulIn m i (gd o i) q 0 acc := hg2
        subst hg3
        exact ⟨_, _, _, _, _, rfl, e, hl, la, hg⟩
    · rintro σ' H' ⟨acc, x4, x5, x6, x7, rfl, e, hl, la, hg⟩
      rw [List.length_map, List.drop_length] at hg
      have hg2 : acc = mul o q m := hg
      subst hg2
      exact s_ret (ev_var rfl) fun H4 e4 => k l H4 hl0 (e.trans e4) (e4 _ _ hl)
theorem ok_numbers_to {f : Addr} {fd : FuncData} (F : FnP K "numbers_to" "numbers_to" s_numbers_to f fd) (T : Tx K w mg C D) (m_size : Met P w K mg base 1 C "size" (sp_K_size K C)) (c_multiplied : Cal P w K mg base 1 "multiplied" (sp_multiplied K C)) (m_name : Met P w K mg base 1 C "name" (sp_K_name K C)) : FnOk P w K mg base CX0 2 f fd ["kind", "most"] (sp_numbers_to K C) := by
  refine fn0 F sc_numbers_to (fun vs H Q E h => ?_) (fun cdv A outer s H vs Q E hr h => ?_)
  · obtain ⟨v, ⟨p, n, m, rfl, _⟩, k⟩ := h
    rfl
  · obtain ⟨v, ⟨p, n, m, rfl, hp, hn, hm, rfl⟩, k⟩ := h
    refine ⟨_, (pss_cons (ps_set (i := 2) sc_numbers_to.nd rfl (Or.inl rfl) (pe_op op_cat (pe_lst (pa_cons pe_int pa_nil)) (pe_op op_rep (pe_lst (pa_cons pe_int pa_nil)) (pv 1))))
      (pss_cons (ps_for PassesOwn.never rfl (pi_range2 rfl T.b_range (pa_cons pe_int (pa_cons (pe_op op_add (pm0 m_size hr (pv 0)) pe_int) pa_nil))) (pg_name (i := 3) sc_numbers_to.nd rfl (Or.inl rfl))
      (pss_one (ps_set (i := 2) sc_numbers_to.nd rfl (Or.inl rfl) (pc c_multiplied hr (pa_cons (pv 2) (pa_cons (pe_op op_rep (pe_lst (pa_cons pe_int pa_nil)) (pe_op op_mul (pv 3) (pe_op op_add pe_int (pe_callTy call_int1 (by rfl) T.b_int (by decide +kernel) (pa_cons (pe_cmpR op_eq (pm0 m_name hr (pv 0)) pe_str (nomark _)) pa_nil))))) (pa_cons (pv 1) pa_nil)))))))
      (pss_cons (ps_if (pt_cmpR op_eq (pm0 m_name hr (pv 0)) pe_str (nomark _)) (pss_one (ps_for PassesOwn.never rfl (pi_range2 rfl T.b_range (pa_cons pe_int (pa_cons (pm0 m_size hr (pv 0)) pa_nil))) (pg_name (i := 3) sc_numbers_to.nd rfl (Or.inl rfl))
      (pss_one (ps_for PassesOwn.never rfl (pi_range2 rfl T.b_range (pa_cons (pv 3) (pa_cons (pe_op op_add (pv 1) pe_int) pa_nil))) (pg_name (i := 4) sc_numbers_to.nd rfl (Or.inl rfl))
      (pss_one (ps_asg (pe_op op_add (pe_ix ix_seq (pv 2) (pv 4) (fun _ _ => rfl)) (pe_ix ix_seq (pv 2) (pe_op op_sub (pv 4) (pv 3)) (fun _ _ => rfl))) (pg_sub (pv 2) (pv 4) set_list))))))) pss_nil)
      (pss_one (ps_ret (pv 2)))))), ?_⟩
    have e0 : [V.int 1] ++ (List.replicate m [V.int 0]).flatten = (num m 0).map V.int := by
      unfold num
      rw [rep_one, List.map_cons, List.map_replicate]
      rfl
    refine q_asgL (el_cat (el_lst (ea_cons ev_c ea_nil) (by decide)) (el_rep (k := m) (el_lst (ea_cons ev_c ea_nil) (by decide)) (fun H1 e1 => ev_var rfl) (by omega) (by decide)) (by decide) (by rw [rep_one, List.length_replicate]; omega)) fun l H1 hl0 e1 h1 => ?_
    rw [e0] at h1
    refine q_forR2 (lo := 1) (n := (n : Int) + 1) (ea_cons ev_c (ea_cons (ev_op (ev_m0 (ev_var rfl) (hp.mono e1) (PV.sp fun H1 e => ⟨p, .pl, n, rfl, (hp.mono e1).mono e, rfl⟩)) ev_c rv_I0) ea_nil)) ⟨by decide, by decide, by omega, by omega⟩
      (fun i σ' H' => ∃ (pl : Addr) (x3 x4 : Option V), σ' = [some (.ref p), some (.int m), some (.ref pl), x3, x4] ∧ H pl = none ∧ Ex H H' ∧ Ls H' pl (num m i)) (fun H2 e2 => ⟨l, none, none, rfl, hl0, e1.trans e2, e2 _ _ h1⟩) ?_ ?_
    · rintro i σ' H' hi ⟨pl, x3, x4, rfl, hn0, e, hl⟩
      have ei : (1 : Int) + (i : Int) = ((i + 1 : Nat) : Int) := by omega
      rw [ei]
      refine s_asgL (xs := (num m (i + 1)).map V.int) (fun H2 e2 Q q => ⟨_, rfl, ?_⟩) fun q H4 hq e4 h4 => ⟨q, _, _, rfl, fresh_back e hq, e.trans e4, h4⟩
      have hp2 := hp.mono (e.trans e2)
      refine el_rep (k := i + 1) (el_lst (ea_cons ev_c ea_nil) (by decide)) (fun H3 e3 => ev_is (ev_op (ev_var rfl) (ev_op ev_c (ev_intB (ev_kname .mi rfl (hp2.mono e3))) rv_I0) (rv_I (.inl ⟨by omega, by omega⟩))) ?_) (by omega) (by decide) H2 (Ex.refl H2) _ fun r H3 hr3 e3 h3 => ⟨_, rfl, ?_⟩
      · show V.int (((i + 1 : Nat) : Int) * (1 + 0)) = V.int ((i + 1 : Nat) : Int)
        rw [Int.add_zero, Int.mul_one]
      · rw [rep_one, ← List.map_replicate] at h3
        exact ⟨_, ⟨pl, r, num m i, List.replicate (i + 1) 1, m, rfl, (e2.trans e3) _ _ hl, h3, hm, fun y hy => by rw [(List.mem_replicate.mp hy).2]; decide, rfl⟩, fun u H5 hu e5 h5 => q u H5 (fresh_back e3 hu) (e3.trans e5) h5⟩
    · rintro σ' H' ⟨pl, x3, x4, rfl, hn0, e, hl⟩
      rw [show ((n : Int) + 1 - 1).toNat = n by omega] at hl
      refine q_when (b := false) (et_test (ev_kname .ri rfl (hp.mono e))) (fun z => by cases z) fun _ H4 e4 => ?_
      exact s_ret (ev_var rfl) fun H5 e5 => k pl H5 hn0 (e.trans (e4.trans e5)) (e5 _ _ (e4 _ _ hl))
theorem ok_how_many_orders {f : Addr} {fd : FuncData} (F : FnP K "how_many_orders" "how_many_orders" s_how_many_orders f fd) (T : Tx K w mg C D) (c_check_kind : Cal P w K mg base 1 "check_kind" (sp_check_kind K C)) (c_check_number : Cal P w K mg base 3 "check_number" (sp_check_number K C)) (m_name : Met P w K mg base 1 C "name" (sp_K_name K C)) (c_numbers_to : Cal P w K mg base 2 "numbers_to" (sp_numbers_to K C)) : FnOk P w K mg base CX0 4 f fd ["kind", "crossings"] (sp_how_many_orders K C) := by
  refine fn0 F sc_how_many_orders (fun vs H Q E h => ?_) (fun cdv A outer s H vs Q E hr h => ?_)
  · obtain ⟨v, ⟨p, n, c, rfl, _⟩, k⟩ := h
    rfl
  · obtain ⟨v, ⟨p, n, c, rfl, hp, hn, hc, rfl⟩, k⟩ := h
    refine ⟨_, (pss_cons (ps_expr (pc c_check_kind hr (pa_cons (pv 0) pa_nil)))
      (pss_cons (ps_expr (pc c_check_number hr (pa_cons (pv 1) (pa_cons pe_int (pa_cons pe_non pa_nil)))))
      (pss_one (ps_ret (pe_ifExp (PW.pt (pw_and (pt_cmpR op_gt (pv 1) (pgi T.MOST_ASKED) (nomark _)) (pw_and1 (pt_cmpR op_ne (pm0 m_name hr (pv 0)) pe_str (nomark _))))) pe_int (pe_ix ix_seq (pc c_numbers_to hr (pa_cons (pv 0) (pa_cons (pv 1) pa_nil))) (pv 1) (fun _ _ => rfl))))))), ?_⟩
    refine q_drop (ev_ck rfl hp) fun H1 e1 => q_drop (v := .non) (ev_call (vs := [.int c, .int 0, .non]) (ea_cons (ev_var rfl) (ea_cons ev_c (ea_cons ev_c ea_nil))) (PV.sp fun H2 _ => ⟨c, 0, .non, rfl, by omega, .inl rfl, rfl⟩)) fun H2 e2 => ?_
    have hp2 := hp.mono (e1.trans e2)
    refine s_ret (ev_if (b := false) (et_is (et_and (a := false) (b := true) (et_test (ev_is (ev_op (ev_var rfl) ev_c rv_I0) ?_)) fun z => by cases z) rfl) (fun z => by cases z) fun _ => ?_) fun H3 e3 => k H3 ((e1.trans e2).trans e3)
    · rw [decide_eq_false (by omega)]
    · refine ev_opL1 (xs := (num c n).map V.int) (y := .int (c : Int)) (el_call (ea_cons (ev_var rfl) (ea_cons (ev_var rfl) ea_nil)) (PL.sp fun H3 e3 => ⟨p, n, c, rfl, hp2.mono e3, hn, hc, rfl⟩)) (fun H3 e3 => ev_var rfl) fun q H3 hq e3 => ?_
      have := rv_ix (K := K) (H := H3) (p := q) (o := num c n) (i := (c : Int)) (.inl (sq_of hq)) (by omega) (by rw [num_len]; omega)
      rw [Int.toNat_natCast] at this
      exact this
end
end SL

set_option Elab.async false
set_option linter.all false
set_option maxRecDepth 100000
set_option maxHeartbeats 4000000
namespace SL
open PySem PySem.Spec PyProof.Rows L2 Evl
section
variable {X : Cx}
/-- {k: v}, k a tuple -/
def tDisp1 (tk tv : TE) : TE := fun σ H Q => ∀ p, H p = none → tk σ (L2.upd H p (.dT [])) fun x H1 => tv σ H1 fun y H2 => ∃ (b : Addr) (ks : List L2.Key), x = .ref b ∧ H2 p = some (.dT []) ∧ H2 b = some (.tup (ks.map kV)) ∧ Q (.ref p) (L2.upd H2 p (.dT [(ks, y)]))
theorem pe_disp1 {k v : Expr} {pos : Pos} {tk tv : TE} (hu : X.A.units + 1 < cLine) (hk : PE X k tk) (hv : PE X v tv) : PE X (.Dict [some k] [v] pos) (tDisp1 tk tv) := by
  refine ⟨fun pins s σ H Q I q => ?_⟩
  have hn := I.hok.fresh (Nat.le_refl s.heap.objs.size)
  have I1 := I.laid (a := s.heap.objs.size) (o := .dT []) (h' := s.heap.push { cls := .type "dict", data := .dict #[] }) (t' := s.toks) (fun _ _ q => Heap.get?_push_of_some _ q) (Nat.le_refl _) (dt_empty s.heap I.big)
  have hshape := zip_pairTrees [some k] [v] X.env pos rfl rfl
  rw [arm_eval_Dict, hshape, dictDisplay_pairs (pairTrees [some k] [v] X.env pos) (by intro h; cases h) (by show 1 < 17; decide)]
  refine wpAny_bind (wpAny_standAt (wpAny_bind (wpAny_subDictH (knd := tupleKind (mixKind X.prog X.w)) (Q := fun d s' => wpAny (model X.prog X.w) X.A (pure (Value.ref d)) (EP X pins σ Q) X.xe s') (show X.A.units < cLine by omega) (by show 1 ≤ 15; decide) ?_)))
  refine pairTrees_cons_walk (thn (hk.run pins _ σ _ _ I1 (q _ hn)) fun u s1 ⟨x, H1, I2, rx, q1⟩ => thn (hv.run pins s1 σ H1 _ I2 q1) fun w2 s2 ⟨y, H2, I3, ry, q2⟩ => pairTrees_nil_walk ?_)
  obtain ⟨b, ks, rfl, hp, hb, qq⟩ := q2
  obtain rfl : u = Value.ref b := rx
  obtain ⟨z, hd, xs, rel, dd⟩ := dt_of I3.hok hp
  cases rel
  refine ⟨[(ks, b, w2)], ⟨rfl, rfl, key_of I3.hok hb, trivial⟩, dd, fun h' tk dd' hs => wpAny_pure ⟨.ref s.heap.objs.size, _, ?_, rfl, qq⟩⟩
  obtain ⟨o, es, ep, hq, h2, h3, h4, _, h5⟩ := dd'
  refine d_write I3 (by rw [hp]; exact True.intro) hs ⟨o, hq⟩ ⟨by show 1 ≤ sizeLine; decide, hd, _, .cons ⟨rfl, ?_, ry⟩ .nil, o, es, ep, hq, h2, h3, h4, h5⟩
  rw [upd_ne (ne_of hb hp (fun z => nomatch z))]
  exact hb
end
end SL

set_option Elab.async false
set_option linter.all false
set_option maxRecDepth 100000
set_option maxHeartbeats 4000000
namespace SL
open PySem PySem.Spec PyProof.Rows L2 Evl
abbrev s_orders_with : Stmt := tp 56
abbrev N_orders_with : List Str := ["kind", "crossings", "many", "found", "turn", "longer", "order", "step"]
theorem sc_orders_with : FnScope N_orders_with ["kind", "crossings"] (defScope s_orders_with) := ⟨rfl, rfl, rfl, by decide +kernel, rfl, by decide +kernel, by decide +kernel⟩
/-- orders that stand in a list at l -/
structure OrdsAt (H : Hp) (l : Addr) (ps : List (Addr × List Int)) : Prop where
  at_ : H l = some (.lst (ps.map fun q => V.ref q.1))
  all : ∀ q ∈ ps, Ls H q.1 q.2
def sp_orders_with (K : PySem.W.Frag) (C : Addr) : Sp := fun vs H Q _ => ∃ (p : Addr) (n c : Nat), vs = [.ref p, .int c] ∧ KindAt C H p .pl n ∧ asked n c ∧
  ∀ (l : Addr) (H2 : Hp) (ps : List (Addr × List Int)), H l = none → Ex H H2 → OrdsAt H2 l ps → (ps.map (·.2)).Perm (lvls n c) → Q (.ref l) H2
def kk (o : List Int) : List L2.Key := o.map Sum.inl
def kvl (l : List (List Int)) : List (List L2.Key × V) := l.map fun o => (kk o, V.bl true)
theorem kk_V (o : List Int) : (kk o).map kV = o.map V.int := by
  unfold kk
  rw [List.map_map]
  rfl
theorem kk_inj : ∀ {a b : List Int}, kk a = kk b → a = b
  | [], [], _ => rfl
  | [], _ :: _, h => by cases h
  | _ :: _, [], h => by cases h
  | x :: a, y :: b, h => by
    injection h with h1 h2
    injection h1 with h1
    rw [h1, kk_inj h2]
theorem put_kvl (l : List (List Int)) (x : List Int) : putK (kvl l) (kk x) (.bl true) = kvl (put1 l x) := by
  have e : ((kvl l).any fun kv => decide (kv.1 = kk x)) = decide (x ∈ l) := by
    induction l with
    | nil => rfl
    | cons o t ih =>
      show (decide (kk o = kk x) || (kvl t).any fun kv => decide (kv.1 = kk x)) = decide (x ∈ o :: t)
      rw [ih]
      by_cases h : o = x
      · subst h
        rw [decide_eq_true rfl, decide_eq_true List.mem_cons_self]
        rfl
      · have h2 : ¬ kk o = kk x := fun q => h (kk_inj q)
        rw [decide_eq_false h2, Bool.false_or]
        by_cases h3 : x ∈ t
        · rw [decide_eq_true h3, decide_eq_true (List.mem_cons_of_mem _ h3)]
        · rw [decide_eq_false h3, decide_eq_false (fun q => (List.mem_cons.mp q).elim (fun z => h z.symm) h3)]
  unfold putK put1
  rw [e]
  by_cases h : x ∈ l
  · rw [if_pos (decide_eq_true h), if_pos h]
    unfold kvl
    rw [List.map_map]
    refine List.map_congr_left fun o _ => ?_
    show (if kk o = kk x then (kk o, V.bl true) else (kk o, V.bl true)) = (kk o, V.bl true)
    split <;> rfl
  · rw [if_neg (by rw [decide_eq_false h]; exact Bool.false_ne_true), if_neg h]
    unfold kvl
    rw [List.map_append]
    rfl
theorem kvl_len (l : List (List Int)) : (kvl l).length = l.length := List.length_map ..
theorem kvl_get {l : List (List Int)} {i : Nat} {k : List L2.Key} {v : V} (h : (kvl l)[i]? = some (k, v)) : ∃ o, k = kk o ∧ o ∈ l ∧ l.drop i = o :: l.drop (i + 1) ∧ i < l.length := by
  unfold kvl at h
  rw [List.getElem?_map] at h
  cases e : l[i]? with
  | none =>
    rw [e] at h
    cases h
  | some o =>
    rw [e] at h
    obtain ⟨hi, ej⟩ := List.getElem?_eq_some_iff.mp e
    have h2 : (kk o, V.bl true) = (k, v) := Option.some.inj h
    refine ⟨o, (congrArg Prod.fst h2).symm, List.mem_of_getElem? e, ?_, hi⟩
    rw [← ej]
    exact List.drop_eq_getElem_cons hi
theorem perm_map_inv {α β : Type} (f : α → β) : ∀ (m : List α) {l : List β}, l.Perm (m.map f) → ∃ m' : List α, m'.Perm m ∧ l = m'.map f
  | [], l, h => ⟨[], .refl _, List.length_eq_zero_iff.mp (by rw [h.length_eq]; rfl)⟩
  | a :: m, l, h => by
    have ha : f a ∈ l := h.mem_iff.mpr List.mem_cons_self
    obtain ⟨s, t, rfl⟩ := List.append_of_mem ha
    have h2 : (s ++ t).Perm (m.map f) := (List.perm_middle.symm.trans h).cons_inv
    obtain ⟨m', pm, e⟩ := perm_map_inv f m h2
    refine ⟨m'.take s.length ++ a :: m'.drop s.length, ?_, ?_⟩
    · refine List.perm_middle.trans (.cons a ?_)
      rw [List.take_append_drop]
      exact pm
    · have e1 : s = (m'.take s.length).map f := by rw [List.map_take, ← e, List.take_left]
      have e2 : t = (m'.drop s.length).map f := by rw [List.map_drop, ← e, List.drop_left]
      rw [List.map_append, List.map_cons, ← e1, ← e2]
section
variable {P : Program} {w : World} {K : PySem.W.Frag} {mg : Str → Option Value} {base : Heap} {C D : Addr}
/-- tuple(xs) of a new list -/
def rTupS (K : PySem.W.Frag) : List V → Hp → VK → Prop := fun xs H Q => ∃ p ys, xs = [.ref p] ∧ ((SqL K H p ys ∧ ∀ l, H l = none → Q (.ref l) (L2.upd H l (.tup ys))) ∨ (SqT K H p ys ∧ Q (.ref p) H))
theorem eu_tuple {σ : L2.St} {H : Hp} {ta : TE} {xs : List V} (ha : EvL ta σ H xs) : EvU (tCB (rTupS K) (tCons ta tNil)) σ H xs := fun H1 e Q q => ha H1 e _ fun p H2 hp e2 h2 =>
  ⟨p, xs, rfl, .inl ⟨sq_of h2, fun l hl => q l _ (fresh_back e2 hl) (e2.trans (Ex.new hl)) upd_same⟩⟩
theorem for_keysT {d : Addr} {od : Obj} {kvs : List (List L2.Key × V)} {g : TG} {tb : TS} {D' : Ends} {σ : L2.St} {H : Hp} (Pv : Nat → L2.St → Hp → Prop) (h0 : Pv 0 σ H) (hl : ∀ i σ H, Pv i σ H → H d = some (.frz od (.dT kvs)))
    (hs : ∀ i k v q σ H, kvs[i]? = some (k, v) → Pv i σ H → H q = some (.tup (k.map kV)) → g (.ref q) σ H fun σ2 H2 => tb { D' with nx := Pv (i + 1), ct := Pv (i + 1), bk := D'.nx } σ2 H2) (hd : ∀ σ H, Pv kvs.length σ H → D'.nx σ H) :
    ∃ W : Nat → Nat → L2.St → Hp → Prop, (∃ m, W 0 m σ H) ∧ ∀ i m σ H, W i m σ H →
      ((Itkt d od kvs).stop i H ∧ D'.nx σ H) ∨ ((Itkt d od kvs).go i H ∧ ∃ N : L2.St → Hp → Prop, (∀ σ' H', N σ' H' → ∃ m', m' < m ∧ W (i + 1) m' σ' H') ∧ ∀ x H', (Itkt d od kvs).yld i H x H' → g x σ H' fun σ2 H2 => tb { D' with nx := N, ct := N, bk := D'.nx } σ2 H2) := by
  refine ⟨fun j r σ' H' => r = kvs.length - j ∧ j ≤ kvs.length ∧ Pv j σ' H', ⟨kvs.length, (Nat.sub_zero _).symm, Nat.zero_le _, h0⟩, fun i m σ H z => ?_⟩
  obtain ⟨rfl, hi, p⟩ := z
  have q := hl i σ H p
  by_cases hlt : i < kvs.length
  · refine .inr ⟨⟨q, hlt⟩, Pv (i + 1), fun σ' H' p' => ⟨kvs.length - (i + 1), by omega, rfl, hlt, p'⟩, fun x H' y => ?_⟩
    obtain ⟨rfl, k, v, b, e, rfl, hb⟩ := y
    exact hs i k v b σ _ e p hb
  · have e : i = kvs.length := by omega
    subst e
    exact .inl ⟨⟨q, Nat.le_refl _⟩, hd σ H p⟩
/-- the key tuples, with what they hold -/
theorem keys_pairs {H : Hp} : ∀ {l : List (List Int)} {bs : List Addr}, IsKeys H (kvl l) bs → ∃ qs : List (Addr × List Int), bs = qs.map (·.1) ∧ l = qs.map (·.2) ∧ ∀ q ∈ qs, H q.1 = some (.tup (q.2.map V.int))
  | [], bs, h => by
    cases h
    exact ⟨[], rfl, rfl, fun _ h => by cases h⟩
  | o :: l, bs, h => by
    have h' : Paired (fun (p : List L2.Key × V) b => H b = some (.tup (p.1.map kV))) ((kk o, V.bl true) :: kvl l) bs := h
    cases h' with
    | @cons _ b _ bs h1 h2 =>
      obtain ⟨qs, rfl, rfl, ha⟩ := keys_pairs (l := l) h2
      refine ⟨(b, o) :: qs, rfl, rfl, fun q hq => ?_⟩
      rcases List.mem_cons.mp hq with rfl | hq
      · rw [← kk_V]
        exact h1
      · exact ha q hq
theorem ok_orders_with {f : Addr} {fd : FuncData} (F : FnP K "orders_with" "orders_with" s_orders_with f fd) (T : Tx K w mg C D) (c_how_many_orders : Cal P w K mg base 4 "how_many_orders" (sp_how_many_orders K C)) (m_start : Met P w K mg base 1 C "start" (sp_K_start K C)) (m_steps : Met P w K mg base 1 C "steps" (sp_K_steps K C)) (c_is_crossed : Cal P w K mg base 2 "is_crossed" (sp_is_crossed K C)) (c_by_step : Cal P w K mg base 2 "by_step" (sp_by_step K C)) : FnOk P w K mg base CX0 5 f fd ["kind", "crossings"] (sp_orders_with K C) := by
  refine fn0 F sc_orders_with (fun vs H Q E h => ?_) (fun cdv A outer s H vs Q E hr h => ?_)
  · obtain ⟨p, n, c, rfl, _⟩ := h
    rfl
  · obtain ⟨p, n, c, rfl, hp, hask, k⟩ := h
    have hn1 : 1 ≤ n := by unfold asked at hask; omega
    have hn7 : n ≤ 7 := by unfold asked at hask; omega
    have hc : c ≤ 6 := by unfold asked at hask; omega
    obtain ⟨many0, many1⟩ := many_ok hask
    refine ⟨_, (pss_cons (ps_set (i := 2) sc_orders_with.nd rfl (Or.inl rfl) (pc c_how_many_orders hr (pa_cons (pv 0) (pa_cons (pv 1) pa_nil))))
      (pss_cons (ps_if (pt_cmpR op_gt (pv 2) (pgi T.MOST_LISTED) (nomark _)) pss_never pss_nil)
      (pss_cons (ps_set (i := 3) sc_orders_with.nd rfl (Or.inl rfl) (pe_ifExp (pt_cmpR op_gt (pv 2) pe_int (nomark _)) (pe_disp1 (hu_of hr) (pe_callTy call_tuple_of (by rfl) T.b_tuple (by decide +kernel) (pa_cons (pm0 m_start hr (pv 0)) pa_nil)) pe_bl) pe_dnewT))
      (pss_cons (ps_for PassesOwn.never rfl (pi_range1 rfl T.b_range (pa_cons (pe_op op_mul (pv 1) (pe_callTy call_int1 (by rfl) T.b_int (by decide +kernel) (pa_cons (pe_cmpR op_gt (pv 2) pe_int (nomark _)) pa_nil))) pa_nil)) (pg_name (i := 4) sc_orders_with.nd rfl (Or.inl rfl))
      (pss_cons (ps_set (i := 5) sc_orders_with.nd rfl (Or.inl rfl) pe_dnewT)
      (pss_cons (ps_lock (ps_for PassesOwn.never rfl (pi_keys (pv 3)) (pg_name (i := 6) sc_orders_with.nd rfl (Or.inl rfl))
      (pss_one (ps_for PassesOwn.never rfl (pi_range1 rfl T.b_range (pa_cons (pm0 m_steps hr (pv 0)) pa_nil)) (pg_name (i := 7) sc_orders_with.nd rfl (Or.inl rfl))
      (pss_one (ps_if (pt_not (pt_val (pc c_is_crossed hr (pa_cons (pv 0) (pa_cons (pv 6) (pa_cons (pv 7) pa_nil)))))) (pss_one (ps_dput (hu_of hr) (pv 5) (pe_callTy call_tuple_of (by rfl) T.b_tuple (by decide +kernel) (pa_cons (pc c_by_step hr (pa_cons (pv 0) (pa_cons (pv 6) (pa_cons (pv 7) pa_nil)))) pa_nil)) pe_bl rfl)) pss_nil))))))
      (pss_one (ps_set (i := 3) sc_orders_with.nd rfl (Or.inl rfl) (pv 5))))))
      (pss_one (ps_ret (pe_lc (own := [("order", 6)]) (g := gName 6) (tt := tYes) (by rfl) sc_orders_with.nd (pi_list (pe_callB (cr_sortT (d := n) (B := 100) hn1) (by rfl) T.b_sorted (by decide +kernel) (pa_cons (pe_callTy (call_list_dT rfl) (by rfl) T.b_list (by decide +kernel) (pa_cons (pv 3) pa_nil)) pa_nil))) (blkOk_by (own := [("order", 6)]) (N := N_orders_with) (sc := defScope s_orders_with) (by decide +kernel)) (fun _ _ _ _ _ => pg_name (i := 6) sc_orders_with.nd rfl (Or.inl rfl)) (fun _ _ _ _ _ => pts_nil) (fun _ _ _ _ _ => (pe_callTy (call_listK (K := K) rfl) (by rfl) T.b_list (by decide +kernel) (pa_cons (pv 6) pa_nil)))))))))), ?_⟩
    refine q_asg (ev_call (ea_cons (ev_var rfl) (ea_cons (ev_var rfl) ea_nil)) (PV.sp fun H1 e => ⟨p, n, c, rfl, hp.mono e, hn7, by omega, rfl⟩)) fun H1 e1 => ?_
    refine q_when (b := false) (et_test (ev_is (ev_op (ev_var rfl) ev_c rv_I0) (by rw [decide_eq_false (by omega)]))) (fun z => by cases z) fun _ H2 e2 => ?_
    have e12 := e1.trans e2
    -- found = {tuple(kind.start()): True}
    refine (et_test (b := true) (ev_is (ev_op (ev_var rfl) ev_c rv_I0) (by rw [decide_eq_true many0]))) H2 (Ex.refl H2) _ fun H3 e3 => iteT ?_
    intro d hd
    refine eu_tuple (el_start rfl ((hp.mono (e12.trans e3)).mono (Ex.new hd)) hn7) _ (Ex.refl _) _ fun b H4 hb e4 h4 => ?_
    refine ⟨b, kk (strt false n), rfl, e4 _ _ upd_same, by rw [kk_V]; exact h4, ?_⟩
    have hd0 : H d = none := fresh_back (e12.trans e3) hd
    have e04 : Ex H H4 := (e12.trans e3).trans ((Ex.new hd).trans e4)
    refine q_forR1 (n := (c : Int)) (ea_cons (ev_is (ev_op (ev_var rfl) (ev_intB (ev_is (ev_op (ev_var rfl) ev_c rv_I0) (by rw [decide_eq_true many0]))) (rv_I (.inr ⟨by decide, by decide⟩))) (by show V.int ((c : Int) * 1) = V.int (c : Int); rw [Int.mul_one])) ea_nil) ⟨by omega, by omega⟩
      (fun i σ' H' => ∃ (d : Addr) (x4 x5 x6 x7 : Option V), σ' = [some (.ref p), some (.int c), some (.int (many n c)), some (.ref d), x4, x5, x6, x7] ∧ H d = none ∧ Ex H H' ∧ H' d = some (.dT (kvl (lvls n i))))
      (fun H5 e5 => ⟨d, none, none, none, none, rfl, hd0, (Exl.ex e04 hd0 Exl.upd).trans e5, e5 _ _ upd_same⟩) ?_ ?_
    · rintro i σ' H5 hi ⟨d, x4, x5, x6, x7, rfl, hd0, e5, h5⟩
      have hi : i < c := by omega
      -- longer = {}
      intro e he
      have he0 : H e = none := fresh_back e5 he
      have hde : d ≠ e := ne_of_none h5 he
      -- for order in found
      refine ⟨d, .dT (kvl (lvls n i)), (upd_ne hde).trans h5, trivial, fun od => ?_⟩
      refine ⟨_, rfl, d, od, rfl, .inr ⟨kvl (lvls n i), upd_same, ?_⟩⟩
      refine for_keysT (fun j σ' H' => ∃ (acc : List (List Int)) (y6 y7 : Option V), σ' = [some (.ref p), some (.int c), some (.int (many n c)), some (.ref d), some (.int (i : Int)), some (.ref e), y6, y7] ∧ Ex H H' ∧ H' d = some (.frz od (.dT (kvl (lvls n i)))) ∧ H' e = some (.dT (kvl acc)) ∧ acc.length ≤ j * 7 ∧ lvlGo n ((lvls n i).drop j) acc = lvls n (i + 1))
        ⟨[], _, _, rfl, Exl.ex (e5.trans (Ex.new he)) hd0 Exl.upd, upd_same, (upd_ne hde.symm).trans upd_same, by decide, rfl⟩ (fun j σ' H' ⟨_, _, _, _, _, h, _⟩ => h) ?_ ?_
      · rintro j ky v q σ' H6 hj ⟨acc, y6, y7, rfl, e6, hd6, he6, la, hg⟩ hq
        obtain ⟨o, rfl, ho, hdr, hjl⟩ := kvl_get hj
        rw [kk_V] at hq
        rw [hdr] at hg
        have vo := lvls_vd n i o ho
        have few := lvls_few (asked_lt hask (Nat.le_of_lt hi))
        refine s_forR1 (n := ((n - 1 : Nat) : Int)) (ea_cons (ev_is (ev_m0 (ev_var rfl) (hp.mono e6) (PV.sp fun H7 e7 => ⟨p, .pl, n, rfl, (hp.mono e6).mono e7, rfl⟩)) (congrArg V.int (stN_int .pl hn1))) ea_nil) ⟨by omega, by omega⟩
          (fun t σ' H' => ∃ (acc2 : List (List Int)) (z7 : Option V), σ' = [some (.ref p), some (.int c), some (.int (many n c)), some (.ref d), some (.int (i : Int)), some (.ref e), some (.ref q), z7] ∧ Ex H H' ∧ H' d = some (.frz od (.dT (kvl (lvls n i)))) ∧ H' e = some (.dT (kvl acc2)) ∧ H' q = some (.tup (o.map V.int)) ∧ acc2.length ≤ j * 7 + t ∧ lvlIn o (n - 1 - t) t acc2 = lvlIn o (n - 1) 0 acc)
          (fun H7 e7 => ⟨acc, _, rfl, e6.trans e7, e7 _ _ hd6, e7 _ _ he6, e7 _ _ hq, la, rfl⟩) ?_ ?_
        · rintro t σ' H7 ht ⟨acc2, z7, rfl, e7, hd7, he7, hq7, la2, hg2⟩
          have ht : t < n - 1 := by omega
          obtain ⟨r, hr1, hr2⟩ : ∃ r, n - 1 - t = r + 1 ∧ n - 1 - (t + 1) = r := ⟨n - 1 - t - 1, by omega, by omega⟩
          rw [hr1, lvlIn.eq_2] at hg2
          have hcr : crk .pl n o t = cr false o t := crk_nst ht
          refine s_when (et_not (et_B (ev_call (ea_cons (ev_var rfl) (ea_cons (ev_var rfl) (ea_cons (ev_var rfl) ea_nil))) (PV.sp fun H8 e8 => ⟨p, q, .pl, n, t, o, rfl, hp.mono (e7.trans e8), .inr (st_of (e8 _ _ hq7)), vo.len, ht, (fun z => by cases z), rfl⟩)))) (fun z H8 e8 => ?_) (fun z H8 e8 => ?_)
          · rw [hcr] at z
            have z2 : cr false o t = false := by simpa using z
            rw [z2, if_neg Bool.false_ne_true] at hg2
            -- longer[tuple(by_step(kind, order, step))] = True
            refine ⟨_, rfl, ?_⟩
            refine eu_tuple (xs := (stp false o t).map V.int) (el_call (ea_cons (ev_var rfl) (ea_cons (ev_var rfl) (ea_cons (ev_var rfl) ea_nil))) (PL.sp fun H9 e9 => ⟨p, q, .pl, n, t, o, rfl, hp.mono ((e7.trans e8).trans e9), .inr (st_of (e9 _ _ (e8 _ _ hq7))), vo.len, hn7, ht, rfl⟩)) H8 (Ex.refl H8) _ fun u H9 hu e9 h9 => ?_
            have e79 := e8.trans e9
            refine ⟨e, _, rfl, DPut.t (k := kk (stp false o t)) (e79 _ _ he7) (by rw [kk_V]; exact h9) (by rw [kvl_len]; exact small1000 (by omega)), ?_⟩
            rw [put_kvl]
            have hne : q ≠ e := ne_of (e79 _ _ hq7) (e79 _ _ he7) (fun z => nomatch z)
            refine ⟨put1 acc2 (stp false o t), _, rfl, Exl.ex (e7.trans e79) he0 Exl.upd, (upd_ne hde).trans (e79 _ _ hd7), upd_same, (upd_ne hne).trans (e79 _ _ hq7), ?_, by rw [hr2]; exact hg2⟩
            have := put1_len acc2 (stp false o t)
            omega
          · rw [hcr] at z
            have z2 : cr false o t = true := by simpa using z
            rw [z2, if_pos rfl] at hg2
            exact ⟨acc2, _, rfl, e7.trans e8, e8 _ _ hd7, e8 _ _ he7, e8 _ _ hq7, by omega, by rw [hr2]; exact hg2⟩
        · rintro σ' H7 ⟨acc2, z7, rfl, e7, hd7, he7, hq7, la2, hg2⟩
          rw [Int.toNat_natCast, Nat.sub_self] at hg2
          rw [Int.toNat_natCast] at la2
          have hg3 : acc2 = lvlIn o (n - 1) 0 acc := hg2
          exact ⟨acc2, _, _, rfl, e7, hd7, he7, by omega, by rw [hg3]; exact hg⟩
      · rintro σ' H6 ⟨acc, y6, y7, rfl, e6, hd6, he6, la, hg⟩
        rw [kvl_len, List.drop_length] at hg
        have hg2 : acc = lvls n (i + 1) := hg
        refine ⟨hd6, ?_⟩
        have he7 : (L2.upd H6 d (.dT (kvl (lvls n i)))) e = some (.dT (kvl (lvls n (i + 1)))) := by
          rw [upd_ne hde.symm, he6, hg2]
        exact s_asg (ev_var rfl) fun H7 e7 => ⟨e, _, _, _, _, rfl, he0, (Exl.ex e6 hd0 Exl.upd).trans e7, e7 _ _ he7⟩
    · rintro σ' H5 ⟨d, x4, x5, x6, x7, rfl, hd0, e5, h5⟩
      rw [Int.toNat_natCast] at h5
      -- return [list(order) for order in sorted(list(found))]
      refine ⟨_, rfl, d, kvl (lvls n c), rfl, .inl h5, fun l1 bs hl1 hbs => ?_⟩
      obtain ⟨qs, rfl, el, hqs⟩ := keys_pairs hbs
      have few := lvls_few hask
      have vds := lvls_vd n c
      have hqs1 : ∀ q ∈ qs, (L2.upd H5 l1 (.lst ((qs.map (·.1)).map V.ref))) q.1 = some (.tup (q.2.map V.int)) := fun q hq => Ex.new hl1 _ _ (hqs q hq)
      refine ⟨l1, (qs.map (·.1)).map V.ref, rfl, sq_of upd_same, by rw [List.length_map, List.length_map, ← List.length_map (f := (·.2)), ← el]; exact few, fun x hx => ?_, fun ys l2 pm _ hl2 => ?_⟩
      · rw [List.map_map] at hx
        obtain ⟨q, hq, rfl⟩ := List.mem_map.mp hx
        have vq : Vd false n q.2 := vds _ (by rw [el]; exact List.mem_map_of_mem hq)
        exact ⟨q.2, ⟨q.1, rfl, st_of (hqs1 q hq)⟩, vq.len, fun y hy => by
          have := vq.memP hy
          omega⟩
      · rw [List.map_map] at pm
        obtain ⟨rs, prs, rfl⟩ := perm_map_inv _ qs pm
        have e6 : Ex H5 (L2.upd (L2.upd H5 l1 (.lst ((qs.map (·.1)).map V.ref))) l2 (.lst (rs.map (V.ref ∘ fun q => q.1)))) := (Ex.new hl1).trans (Ex.new hl2)
        refine ⟨l2, rfl, ⟨_, sq_of upd_same⟩, fun Dl hDl => ?_⟩
        have hDl0 : H Dl = none := fresh_back e5 (fresh_back e6 hDl)
        have hl2D : l2 ≠ Dl := fun z => by
          rw [← z, upd_same] at hDl
          cases hDl
        refine lc_list (xs := rs.map (V.ref ∘ fun q => q.1)) (fun i H' => ∃ ps : List (Addr × List Int), Ex H5 H' ∧ H' l2 = some (.lst (rs.map (V.ref ∘ fun q => q.1))) ∧ OrdsAt H' Dl ps ∧ ps.map (·.2) = (rs.take i).map (·.2) ∧ ∀ q ∈ ps, q.1 ≠ Dl)
          ⟨[], e6.trans (Ex.new hDl), (upd_ne hl2D).trans upd_same, ⟨upd_same, fun _ h => by cases h⟩, rfl, fun _ h => by cases h⟩ (fun i H' _ ⟨_, _, h, _⟩ => sq_of h) ?_ ?_
        · rintro i x H' hi ⟨ps, e7, h7, ⟨ha, hall⟩, hps, hne⟩
          rw [List.getElem?_map] at hi
          cases er : rs[i]? with
          | none =>
            rw [er] at hi
            cases hi
          | some q =>
            rw [er] at hi
            obtain rfl : V.ref q.1 = x := Option.some.inj hi
            have hqm : q ∈ qs := prs.mem_iff.mp (List.mem_of_getElem? er)
            refine ⟨rfl, ?_⟩
            show tCB (rListS K) (tCons (tVar 6) tNil) _ _ _
            refine el_listq (K := K) (ev_var rfl) (.inr (st_of (e7 _ _ (hqs q hqm)))) H' (Ex.refl H') _ fun u H8 hu e8 h8 => ⟨_, e8 _ _ ha, by rw [List.length_map, ← List.length_map (f := (·.2)), hps, List.length_map, List.length_take]; exact small1000 (by have := prs.length_eq; rw [← List.length_map (f := (·.2)) (as := qs), ← el] at this; omega), ?_⟩
            have huD : u ≠ Dl := fun z => by rw [z, ha] at hu; cases hu
            refine ⟨ps ++ [(u, q.2)], Exl.ex (e7.trans e8) (fresh_back e6 hDl) Exl.upd, (upd_ne hl2D).trans (e8 _ _ h7), ⟨upd_same.trans (by rw [List.map_append]; rfl), fun r hr => ?_⟩, ?_, fun r hr => ?_⟩
            · rcases List.mem_append.mp hr with hr | hr
              · exact (upd_ne (hne r hr)).trans (e8 _ _ (hall r hr))
              · rw [List.mem_singleton.mp hr]
                exact (upd_ne huD).trans h8
            · rw [List.map_append, hps, List.take_add_one, er, List.map_append]
              rfl
            · rcases List.mem_append.mp hr with hr | hr
              · exact hne r hr
              · rw [List.mem_singleton.mp hr]
                exact huD
        · rintro H' ⟨ps, e7, h7, ho, hps, hne⟩
          rw [List.length_map, List.take_length] at hps
          refine k Dl H' ps hDl0 (e5.trans e7) ho ?_
          rw [hps, el]
          exact prs.map _
end
end SL

set_option Elab.async false
set_option linter.all false
set_option maxRecDepth 100000
set_option maxHeartbeats 800000
namespace SL
open PySem PySem.Spec PyProof.Rows L2 Evl
/-! ### the law's own small defs -/
abbrev s_law_hash : Stmt := tp 58
abbrev N_law_hash : List Str := ["_law_seed", "_law_index", "_law_mixed"]
theorem sc_law_hash : FnScope N_law_hash ["_law_seed", "_law_index"] (defScope s_law_hash) := ⟨rfl, rfl, rfl, by decide +kernel, rfl, by decide +kernel, by decide +kernel⟩
abbrev s_law_random : Stmt := tp 59
abbrev N_law_random : List Str := ["_law_generator_here", "_law_bound", "_law_drawn", "_law_turn"]
theorem sc_law_random : FnScope N_law_random ["_law_generator_here", "_law_bound"] (defScope s_law_random) := ⟨rfl, rfl, rfl, by decide +kernel, rfl, by decide +kernel, by decide +kernel⟩
abbrev s_law_cell : Stmt := tp 60
abbrev N_law_cell : List Str := ["_law_script", "_law_index"]
theorem sc_law_cell : FnScope N_law_cell ["_law_script", "_law_index"] (defScope s_law_cell) := ⟨rfl, rfl, rfl, by decide +kernel, rfl, by decide +kernel, by decide +kernel⟩
abbrev s_law_generator : Stmt := tp 61
abbrev N_law_generator : List Str := ["_law_script", "_law_index", "_law_seed"]
theorem sc_law_generator : FnScope N_law_generator ["_law_script", "_law_index"] (defScope s_law_generator) := ⟨rfl, rfl, rfl, by decide +kernel, rfl, by decide +kernel, by decide +kernel⟩
abbrev s_law_start : Stmt := tp 62
abbrev N_law_start : List Str := ["_law_told", "_law_name", "_law_size"]
theorem sc_law_start : FnScope N_law_start ["_law_told"] (defScope s_law_start) := ⟨rfl, rfl, rfl, by decide +kernel, rfl, by decide +kernel, by decide +kernel⟩
abbrev s_law_steps : Stmt := tp 63
abbrev N_law_steps : List Str := ["_law_told", "_law_name", "_law_size"]
theorem sc_law_steps : FnScope N_law_steps ["_law_told"] (defScope s_law_steps) := ⟨rfl, rfl, rfl, by decide +kernel, rfl, by decide +kernel, by decide +kernel⟩
abbrev s_law_two : Stmt := tp 64
abbrev N_law_two : List Str := ["_law_told", "_law_order_here", "_law_step", "_law_name", "_law_size"]
theorem sc_law_two : FnScope N_law_two ["_law_told", "_law_order_here", "_law_step"] (defScope s_law_two) := ⟨rfl, rfl, rfl, by decide +kernel, rfl, by decide +kernel, by decide +kernel⟩
abbrev s_law_crossed : Stmt := tp 65
abbrev N_law_crossed : List Str := ["_law_told", "_law_order_here", "_law_step", "_law_low", "_law_high"]
theorem sc_law_crossed : FnScope N_law_crossed ["_law_told", "_law_order_here", "_law_step"] (defScope s_law_crossed) := ⟨rfl, rfl, rfl, by decide +kernel, rfl, by decide +kernel, by decide +kernel⟩
abbrev s_law_stepped : Stmt := tp 66
abbrev N_law_stepped : List Str := ["_law_told", "_law_order_here", "_law_step", "_law_name", "_law_size", "_law_low", "_law_high"]
theorem sc_law_stepped : FnScope N_law_stepped ["_law_told", "_law_order_here", "_law_step"] (defScope s_law_stepped) := ⟨rfl, rfl, rfl, by decide +kernel, rfl, by decide +kernel, by decide +kernel⟩
abbrev s_law_gains : Stmt := tp 67
abbrev N_law_gains : List Str := ["_law_told", "_law_order_here", "_law_row_here", "_law_found", "_law_step"]
theorem sc_law_gains : FnScope N_law_gains ["_law_told", "_law_order_here", "_law_row_here"] (defScope s_law_gains) := ⟨rfl, rfl, rfl, by decide +kernel, rfl, by decide +kernel, by decide +kernel⟩
abbrev s_law_row : Stmt := tp 68
abbrev N_law_row : List Str := ["_law_generator_here", "_law_told", "_law_most", "_law_many", "_law_steps_here", "_law_turn"]
theorem sc_law_row : FnScope N_law_row ["_law_generator_here", "_law_told", "_law_most"] (defScope s_law_row) := ⟨rfl, rfl, rfl, by decide +kernel, rfl, by decide +kernel, by decide +kernel⟩
abbrev s_law_order : Stmt := tp 69
abbrev N_law_order : List Str := ["_law_generator_here", "_law_told", "_law_most"]
theorem sc_law_order : FnScope N_law_order ["_law_generator_here", "_law_told", "_law_most"] (defScope s_law_order) := ⟨rfl, rfl, rfl, by decide +kernel, rfl, by decide +kernel, by decide +kernel⟩
/-- the generator: its three numbers, the last one at most m -/
def GenAt (H : Hp) (g : Addr) (m : Int) : Prop := ∃ a s c : Int, H g = some (.lst [.int a, .int s, .int c]) ∧ 0 ≤ a ∧ 0 ≤ s ∧ s < 2147483648 ∧ 0 ≤ c ∧ c ≤ m
theorem GenAt.mono {H H' : Hp} {g : Addr} {m : Int} (h : GenAt H g m) (e : Ex H H') : GenAt H' g m := let ⟨a, s, c, h1, h2⟩ := h; ⟨a, s, c, e _ _ h1, h2⟩
theorem GenAt.le {H : Hp} {g : Addr} {m m' : Int} (h : GenAt H g m) (e : m ≤ m') : GenAt H g m' := let ⟨a, s, c, h1, h2, h3, h4, h5, h6⟩ := h; ⟨a, s, c, h1, h2, h3, h4, h5, by omega⟩
/-- what is told: a name and a size -/
def ToldAt (K : PySem.W.Frag) (H : Hp) (t : Addr) (k : Kn) (n : Nat) : Prop := SqT K H t [.str k.s, .int n] ∧ k ≠ .ri ∧ 1 ≤ n ∧ n ≤ 7
theorem ToldAt.mono {K : PySem.W.Frag} {H H' : Hp} {t : Addr} {k : Kn} {n : Nat} (h : ToldAt K H t k n) (e : Ex H H') : ToldAt K H' t k n := ⟨ex_t e h.1, h.2⟩
def sp_law_hash (K : PySem.W.Frag) (C : Addr) : Sp := fun vs H Q _ => ∃ s c : Int, vs = [.int s, .int c] ∧ 0 ≤ s ∧ s < 2147483648 ∧ 0 ≤ c ∧ c ≤ 100000 ∧ ∀ (r : Int) H2, Ex H H2 → Q (.int r) H2
def sp_law_random (K : PySem.W.Frag) (C : Addr) : Sp := fun vs H Q _ => ∃ (g : Addr) (b : Nat) (m : Int), vs = [.ref g, .int b] ∧ 1 ≤ b ∧ b ≤ 1000 ∧ GenAt H g m ∧ m ≤ 90000 ∧
  ∀ (r : Nat) H', r < b → GenAt H' g (m + 1) → Exl g H H' → Q (.int (r : Int)) H'
def sp_law_cell (K : PySem.W.Frag) (C : Addr) : Sp := fun vs H Q _ => ∃ (a : Addr) (ns : List Int) (i : Nat), vs = [.ref a, .int i] ∧ SqL K H a (ns.map V.int) ∧ ∀ (r : Int) H2, Ex H H2 → Q (.int r) H2
def sp_law_generator (K : PySem.W.Frag) (C : Addr) : Sp := fun vs H Q _ => ∃ (a : Addr) (ns : List Int) (i : Nat), vs = [.ref a, .int i] ∧ SqL K H a (ns.map V.int) ∧ i ≤ 10 ∧
  ∀ (g : Addr) H2, H g = none → Ex H H2 → GenAt H2 g 10000 → Q (.ref g) H2
def sp_law_start (K : PySem.W.Frag) (C : Addr) : Sp := PL fun vs H xs => ∃ (t : Addr) (k : Kn) (n : Nat), vs = [.ref t] ∧ ToldAt K H t k n ∧ xs = (strt k.m n).map V.int
def sp_law_steps (K : PySem.W.Frag) (C : Addr) : Sp := PV fun vs H v => ∃ (t : Addr) (k : Kn) (n : Nat), vs = [.ref t] ∧ ToldAt K H t k n ∧ v = .int (stN k n : Nat)
def two' (m : Bool) (o : List Int) (j : Nat) : Int × Int :=
  if m = true then (match j with
    | 0 => (-(gd o 0), gd o 0)
    | i + 1 => (gd o i, gd o (i + 1)))
  else (gd o j, gd o (j + 1))
/-- an order, a step: as the law takes them -/
def TakenAt (K : PySem.W.Frag) (H : Hp) (t a : Addr) (k : Kn) (n : Nat) (o : List Int) (j : Nat) : Prop := ToldAt K H t k n ∧ Ls H a o ∧ Vd k.m n o ∧ j < stN k n
theorem TakenAt.mono {K : PySem.W.Frag} {H H' : Hp} {t a : Addr} {k : Kn} {n j : Nat} {o : List Int} (h : TakenAt K H t a k n o j) (e : Ex H H') : TakenAt K H' t a k n o j := ⟨h.1.mono e, e _ _ h.2.1, h.2.2⟩
/-- a new tuple -/
def RetU (xs : List V) (H : Hp) (Q : VK) : Prop := ∀ p H2, H p = none → Ex H H2 → H2 p = some (.tup xs) → Q (.ref p) H2
def sp_law_two (K : PySem.W.Frag) (C : Addr) : Sp := fun vs H Q _ => ∃ (t a : Addr) (k : Kn) (n j : Nat) (o : List Int), vs = [.ref t, .ref a, .int j] ∧ TakenAt K H t a k n o j ∧ RetU [.int (two' k.m o j).1, .int (two' k.m o j).2] H Q
def sp_law_crossed (K : PySem.W.Frag) (C : Addr) : Sp := PV fun vs H v => ∃ (t a : Addr) (k : Kn) (n j : Nat) (o : List Int), vs = [.ref t, .ref a, .int j] ∧ TakenAt K H t a k n o j ∧ v = .bl (decide ((two' k.m o j).2 < (two' k.m o j).1))
def lst' (m : Bool) (o : List Int) (j : Nat) : List Int :=
  if m = true then (match j with
    | 0 => [-(gd o 0)] ++ o.drop 1
    | i + 1 => o.take i ++ [gd o (i + 1), gd o i] ++ o.drop (i + 2))
  else o.take j ++ [gd o (j + 1), gd o j] ++ o.drop (j + 2)
def sp_law_stepped (K : PySem.W.Frag) (C : Addr) : Sp := PL fun vs H xs => ∃ (t a : Addr) (k : Kn) (n j : Nat) (o : List Int), vs = [.ref t, .ref a, .int j] ∧ TakenAt K H t a k n o j ∧ xs = (lst' k.m o j).map V.int
def sp_law_gains (K : PySem.W.Frag) (C : Addr) : Sp := fun vs H Q _ => ∃ (t a b : Addr) (k : Kn) (n : Nat) (o : List Int) (r : List Nat), vs = [.ref t, .ref a, .ref b] ∧ ToldAt K H t k n ∧ Ls H a o ∧ Vd k.m n o ∧ Ls H b (nI r) ∧ (∀ j ∈ r, j < stN k n) ∧
  ∀ l H2 o2, H l = none → Ex H H2 → Ls H2 l o2 → Vd k.m n o2 → Q (.ref l) H2
/-- .. a tuple that the law has made -/
def ToldU (H : Hp) (t : Addr) (k : Kn) (n : Nat) : Prop := H t = some (.tup [.str k.s, .int n]) ∧ k ≠ .ri ∧ 1 ≤ n ∧ n ≤ 7
theorem ToldU.at {H : Hp} {t : Addr} {k : Kn} {n : Nat} (h : ToldU H t k n) (K : PySem.W.Frag) : ToldAt K H t k n := ⟨st_of h.1, h.2⟩
theorem ToldU.mono {H H' : Hp} {t : Addr} {k : Kn} {n : Nat} (h : ToldU H t k n) (e : Ex H H') : ToldU H' t k n := ⟨e _ _ h.1, h.2⟩
theorem GenAt.ne {H : Hp} {g t : Addr} {m : Int} {k : Kn} {n : Nat} (h : GenAt H g m) (ht : ToldU H t k n) : t ≠ g := by
  obtain ⟨a, s, c, h1, _⟩ := h
  intro e
  have := ht.1
  rw [e, h1] at this
  cases this
theorem ToldU.exl {H H' : Hp} {g t : Addr} {k : Kn} {n : Nat} {m : Int} (h : ToldU H t k n) (hg : GenAt H g m) (e : Exl g H H') : ToldU H' t k n := ⟨e _ _ (hg.ne h) h.1, h.2⟩
def sp_law_row (K : PySem.W.Frag) (C : Addr) : Sp := fun vs H Q _ => ∃ (g t : Addr) (k : Kn) (n mo : Nat) (m : Int), vs = [.ref g, .ref t, .int mo] ∧ GenAt H g m ∧ m ≤ 80000 ∧ ToldU H t k n ∧ 1 ≤ stN k n ∧ mo ≤ 100 ∧
  ∀ l H2 (r : List Nat), H l = none → Exl g H H2 → GenAt H2 g (m + 1 + mo) → Ls H2 l (nI r) → (∀ j ∈ r, j < stN k n) → Q (.ref l) H2
def sp_law_order (K : PySem.W.Frag) (C : Addr) : Sp := fun vs H Q _ => ∃ (g t : Addr) (k : Kn) (n mo : Nat) (m : Int), vs = [.ref g, .ref t, .int mo] ∧ GenAt H g m ∧ m ≤ 80000 ∧ ToldU H t k n ∧ 1 ≤ stN k n ∧ mo ≤ 100 ∧
  ∀ l H2 o, H l = none → Exl g H H2 → GenAt H2 g (m + 1 + mo) → Ls H2 l o → Vd k.m n o → Q (.ref l) H2
section
variable {X : Cx}
/-- i ** j of any size, the result below 2 ^ 27 bits -/
def CPowW (i j : Int) : Prop := 0 ≤ j ∧ (Builtin.Int.intBits i : Int) * j ≤ 2 ^ 27
theorem op_powW : OpR X (binaryOp .Pow) (rI CPowW fun i j => .int (i ^ j.toNat)) := opI fun _ _ _ _ _ _ _ hc q => PyProof.Rows.pow_int hc.1 hc.2 q
end
section
variable {P : Program} {w : World} {K : PySem.W.Frag} {mg : Str → Option Value} {base : Heap} {C D : Addr}
theorem few64 {i : Int} (h0 : 0 ≤ i) (h1 : i < 9223372036854775808) : -(2 ^ 64) < i ∧ i < 2 ^ 64 := by omega
theorem ok_law_hash {f : Addr} {fd : FuncData} (F : FnP K "_law_hash" "_law_hash" s_law_hash f fd) (T : Tx K w mg C D)  : FnOk P w K mg base CX0 1 f fd ["_law_seed", "_law_index"] (sp_law_hash K C) := by
  refine fn0 F sc_law_hash (fun vs H Q E h => ?_) (fun cdv A outer s H vs Q E hr h => ?_)
  · obtain ⟨s, c, rfl, _⟩ := h
    rfl
  · obtain ⟨s0, c, rfl, s1, s2, c1, c2, k⟩ := h
    refine ⟨_, (pss_cons (ps_set (i := 2) sc_law_hash.nd rfl (Or.inl rfl) (pe_op op_mod (pe_callTy call_int1 (by rfl) T.b_int (by decide +kernel) (pa_cons (pe_op op_add (pe_op op_add (pe_op op_add (pe_op op_mul (pv 0) pe_int) (pe_op op_mul (pe_op op_mul pe_int (pv 1)) (pv 1))) (pe_op op_mul pe_int (pv 1))) pe_int) pa_nil)) pe_int))
      (pss_cons (ps_set (i := 2) sc_law_hash.nd rfl (Or.inl rfl) (pe_op op_mod (pe_callTy call_int1 (by rfl) T.b_int (by decide +kernel) (pa_cons (pe_op op_add (pe_op op_add (pe_op op_mul (pv 2) (pv 2)) (pe_op op_mul pe_int (pv 1))) pe_int) pa_nil)) pe_int))
      (pss_one (ps_ret (pe_op op_mod (pe_callTy call_int1 (by rfl) T.b_int (by decide +kernel) (pa_cons (pe_op op_mul (pv 2) pe_int) pa_nil)) pe_int))))), ?_⟩
    have m1 : (0 : Int) < 2147483629 := by decide
    have m2 : (0 : Int) < 2147483587 := by decide
    have m3 : (0 : Int) < 2147483647 := by decide
    refine q_asg (ev_op (ev_intI (ev_op (ev_op (ev_op (ev_op (ev_var rfl) ev_c (rv_I (.inr (few64 (by decide) (by decide))))) (ev_op (ev_op ev_c (ev_var rfl) (rv_I (.inl (few64 (by decide) (by decide))))) (ev_var rfl) (rv_I (.inr (few64 c1 (by omega))))) rv_I0) (ev_op ev_c (ev_var rfl) (rv_I (.inl (few64 (by decide) (by decide))))) rv_I0) ev_c rv_I0)) ev_c (rv_I m1)) fun H1 e1 => ?_
    generalize hx : ((s0 * 1140671 + 27644437 * c * c + 131 * c + 19) % 2147483629 : Int) = x
    have hx0 : 0 ≤ x := by rw [← hx]; exact Int.emod_nonneg _ (by decide)
    have hx1 : x < 2147483629 := by rw [← hx]; exact Int.emod_lt_of_pos _ m1
    refine q_asg (ev_op (ev_intI (ev_op (ev_op (ev_op (ev_var rfl) (ev_var rfl) (rv_I (.inl (few64 hx0 (by omega))))) (ev_op ev_c (ev_var rfl) (rv_I (.inl (few64 (by decide) (by decide))))) rv_I0) ev_c rv_I0)) ev_c (rv_I m2)) fun H2 e2 => ?_
    exact s_ret (ev_op (ev_intI (ev_op (ev_var rfl) ev_c (rv_I (.inr (few64 (by decide) (by decide)))))) ev_c (rv_I m3)) fun H3 e3 => k _ H3 ((e1.trans e2).trans e3)
theorem bits30 {b : Nat} (h : b ≤ 1000) : (Builtin.Int.intBits (b : Int) : Int) / 30 = 0 := by
  have h1 : Builtin.Int.intBits (b : Int) ≤ 10 := PyProof.Rows.intBits_le (by
    show (b : Int).natAbs < 2 ^ 10
    omega)
  omega
section
variable {σ : L2.St} {H : Hp} {ta tb : TE} {x : V} {Q : VK}
theorem go_op {r : R2} (ha : Ev ta σ H x) (k : ∀ H1, Ex H H1 → tb σ H1 fun y H2 => r x y H2 Q) : tOp r ta tb σ H Q := ha H (Ex.refl H) _ k
theorem go_call {sp : Sp} {t : TA} {vs : List V} (h : EvA t σ H vs) (k : ∀ H1, Ex H H1 → sp (vs ++ []) H1 Q E0) : tCall sp [] E0 t σ H Q := h H (Ex.refl H) _ k
end
/-- the bits of a number -/
theorem ev_bits {σ : L2.St} {H : Hp} {to : TE} {i : Int} (h : Ev to σ H (.int i)) : Ev (tBits to) σ H (.int (Builtin.Int.intBits i : Nat)) := fun H1 e Q q => h H1 e _ fun H2 e2 => ⟨i, rfl, q H2 e2⟩
theorem rv_gen {H : Hp} {g : Addr} {xs : List V} {i : Int} {v : V} (h : H g = some (.lst xs)) (ha : atI xs i = some v) : RV (rIx K) (.ref g) (.int i) H v := rv_ixq (.inl (sq_of h)) ha
theorem ok_law_random {f : Addr} {fd : FuncData} (F : FnP K "_law_random" "_law_random" s_law_random f fd) (T : Tx K w mg C D) (c_law_hash : Cal P w K mg base 1 "_law_hash" (sp_law_hash K C)) : FnOk P w K mg base CX0 2 f fd ["_law_generator_here", "_law_bound"] (sp_law_random K C) := by
  refine fn0 F sc_law_random (fun vs H Q E h => ?_) (fun cdv A outer s H vs Q E hr h => ?_)
  · obtain ⟨g, b, m, rfl, _⟩ := h
    rfl
  · obtain ⟨g, b, m, rfl, b1, b2, ⟨a, s0, c, hg, a0, s1, s2, c0, cm⟩, m9, k⟩ := h
    refine ⟨_, (pss_cons (ps_if (pt_cmpR op_gt (pe_ix ix_seq (pv 0) pe_int (fun _ _ => rfl)) pe_int (nomark _)) (pss_cons (ps_set (i := 2) sc_law_random.nd rfl (Or.inl rfl) (pe_op op_mod (pe_callTy call_int1 (by rfl) T.b_int (by decide +kernel) (pa_cons (pe_ix ix_seq (pv 0) pe_int (fun _ _ => rfl)) pa_nil)) (pv 1)))
      (pss_cons (ps_asg (pe_op op_fdiv (pe_ix ix_seq (pv 0) pe_int (fun _ _ => rfl)) (pv 1)) (pg_sub (pv 0) pe_int set_list))
      (pss_one (ps_ret (pv 2))))) pss_nil)
      (pss_cons (ps_set (i := 2) sc_law_random.nd rfl (Or.inl rfl) pe_int)
      (pss_cons (ps_for PassesOwn.never rfl (pi_range1 rfl T.b_range (pa_cons (pe_op op_add pe_int (pe_op op_fdiv (pe_bits (pv 1)) pe_int)) pa_nil)) (pg_name (i := 3) sc_law_random.nd rfl (Or.inl rfl))
      (pss_cons (ps_asg (pe_op op_add (pe_ix ix_seq (pv 0) pe_int (fun _ _ => rfl)) pe_int) (pg_sub (pv 0) pe_int set_list))
      (pss_one (ps_set (i := 2) sc_law_random.nd rfl (Or.inl rfl) (pe_op op_add (pe_op op_mul (pv 2) pe_int) (pc c_law_hash hr (pa_cons (pe_ix ix_seq (pv 0) pe_int (fun _ _ => rfl)) (pa_cons (pe_ix ix_seq (pv 0) pe_int (fun _ _ => rfl)) pa_nil))))))))
      (pss_one (ps_ret (pe_op op_mod (pe_callTy call_int1 (by rfl) T.b_int (by decide +kernel) (pa_cons (pv 2) pa_nil)) (pv 1))))))), ?_⟩
    refine q_when (et_test (ev_op (ev_op (ev_var rfl) ev_c (rv_gen hg rfl)) ev_c rv_I0)) (fun z H1 e1 => ?_) (fun z H1 e1 => ?_)
    · have z := of_decide_eq_true z
      have hg1 := e1 _ _ hg
      have hb : (0 : Int) < (b : Int) := by omega
      refine q_asg (ev_op (ev_intI (ev_op (ev_var rfl) ev_c (rv_gen hg1 rfl))) (ev_var rfl) (rv_I hb)) fun H2 e2 => ?_
      have hg2 := e2 _ _ hg1
      refine q_setL (j := 0) hg2 (ev_op (ev_op (ev_var rfl) ev_c (rv_gen hg2 rfl)) (ev_var rfl) (rv_I ⟨hb, by omega⟩)) (ev_var rfl) ev_c (by show 0 < 3; decide) fun H3 e3 => ?_
      refine s_ret (ev_var rfl) fun H4 e4 => ?_
      have r0 : 0 ≤ a % (b : Int) := Int.emod_nonneg _ (by omega)
      have r1 : a % (b : Int) < b := Int.emod_lt_of_pos _ hb
      have := k (a % (b : Int)).toNat H4 (by omega) ⟨a / (b : Int), s0, c, e4 _ _ upd_same, Int.ediv_nonneg a0 (by omega), s1, s2, c0, by omega⟩ (((Exl.of (e1.trans (e2.trans e3))).trans Exl.upd).trans (Exl.of e4))
      rw [Int.toNat_of_nonneg r0] at this
      exact this
    · refine q_asg ev_c fun H2 e2 => ?_
      have hg2 := (e1.trans e2) _ _ hg
      refine q_forR1 (n := (1 : Int)) (ea_cons (ev_is (ev_op ev_c (ev_op (ev_bits (ev_var rfl)) ev_c (rv_I ⟨by decide, by decide⟩)) rv_I0) (by rw [bits30 b2]; rfl)) ea_nil) ⟨by decide, by decide⟩
        (fun i σ' H' => ∃ (a s c d : Int) (x3 : Option V), σ' = [some (.ref g), some (.int b), some (.int d), x3] ∧ Exl g H H' ∧ H' g = some (.lst [.int a, .int s, .int c]) ∧ 0 ≤ a ∧ 0 ≤ s ∧ s < 2147483648 ∧ 0 ≤ c ∧ c ≤ m + i)
        (fun H3 e3 => ⟨a, s0, c, 0, none, rfl, Exl.of ((e1.trans e2).trans e3), e3 _ _ hg2, a0, s1, s2, c0, by omega⟩) ?_ ?_
      · rintro i σ' H3 hi ⟨a, s0, c, d, x3, rfl, e3, hg3, a0, s1, s2, c0, cm⟩
        have hi0 : i = 0 := by omega
        subst hi0
        refine q_setL (j := 2) hg3 (ev_op (ev_op (ev_var rfl) ev_c (rv_gen hg3 rfl)) ev_c rv_I0) (ev_var rfl) ev_c (by show 2 < 3; decide) fun H4 e4 => ?_
        have hg5 : (L2.upd H4 g (.lst ([V.int a, V.int s0, V.int c].set 2 (V.int (c + 1))))) g = some (.lst [.int a, .int s0, .int (c + 1)]) := upd_same
        have e5 : Exl g H (L2.upd H4 g (.lst ([V.int a, V.int s0, V.int c].set 2 (V.int (c + 1))))) := (e3.trans (Exl.of e4)).trans Exl.upd
        generalize (L2.upd H4 g (.lst ([V.int a, V.int s0, V.int c].set 2 (V.int (c + 1))))) = H5 at hg5 e5 ⊢
        refine go_op (ev_op (ev_var rfl) ev_c (rv_I (.inr (few64 (by decide) (by decide))))) fun H6 e6 => ?_
        have hg6 := e6 _ _ hg5
        refine go_call (vs := [.int s0, .int (c + 1)]) (ea_cons (ev_op (ev_var rfl) ev_c (rv_gen hg6 rfl)) (ea_cons (ev_op (ev_var rfl) ev_c (rv_gen hg6 rfl)) ea_nil)) fun H7 e7 => ⟨s0, c + 1, rfl, s1, s2, by omega, by omega, fun r H8 e8 => ⟨_, _, rfl, rfl, ?_⟩⟩
        exact ⟨a, s0, c + 1, _, _, rfl, e5.trans (Exl.of (e6.trans (e7.trans e8))), (e7.trans e8) _ _ hg6, a0, s1, s2, by omega, by omega⟩
      · rintro σ' H3 ⟨a, s0, c, d, x3, rfl, e3, hg3, a0, s1, s2, c0, cm⟩
        have hb : (0 : Int) < (b : Int) := by omega
        have r0 : 0 ≤ d % (b : Int) := Int.emod_nonneg _ (by omega)
        have r1 : d % (b : Int) < b := Int.emod_lt_of_pos _ hb
        refine s_ret (ev_op (ev_intI (ev_var rfl)) (ev_var rfl) (rv_I hb)) fun H4 e4 => ?_
        have := k (d % (b : Int)).toNat H4 (by omega) ⟨a, s0, c, e4 _ _ hg3, a0, s1, s2, c0, cm⟩ (e3.trans (Exl.of e4))
        rw [Int.toNat_of_nonneg r0] at this
        exact this
theorem ev_sumN {σ : L2.St} {H : Hp} {ta : TE} {o : List Int} (ha : EvL ta σ H (o.map V.int)) : Ev (tCB (rSum K) (tCons ta tNil)) σ H (.int o.sum) := fun H1 e Q q => ha H1 e _ fun p H2 hp e2 h2 => ⟨p, o, rfl, sq_of h2, q H2 e2⟩
theorem ok_law_cell {f : Addr} {fd : FuncData} (F : FnP K "_law_cell" "_law_cell" s_law_cell f fd) (T : Tx K w mg C D)  : FnOk P w K mg base CX0 1 f fd ["_law_script", "_law_index"] (sp_law_cell K C) := by
  refine fn0 F sc_law_cell (fun vs H Q E h => ?_) (fun cdv A outer s H vs Q E hr h => ?_)
  · obtain ⟨a, ns, i, rfl, _⟩ := h
    rfl
  · obtain ⟨a, ns, i, rfl, hs, k⟩ := h
    refine ⟨_, (pss_cons (ps_if (pt_cmpR op_lt (pv 1) (pe_callB call_len_seq (by rfl) T.b_len (by decide +kernel) (pa_cons (pv 0) pa_nil)) (nomark _)) (pss_one (ps_ret (pe_ix ix_seq (pv 0) (pv 1) (fun _ _ => rfl)))) pss_nil)
      (pss_one (ps_ret (pe_op op_mod (pe_callB (cr_sum rfl) (by rfl) T.b_sum (by decide +kernel) (pa_cons (pe_slice sl_list (pv 0) po_none (po_some pe_int)) pa_nil)) pe_int)))), ?_⟩
    refine q_when (et_test (ev_op (ev_var rfl) (ev_lenq (ev_var rfl) (.inl hs)) rv_I0)) (fun z H1 e1 => ?_) (fun z H1 e1 => ?_)
    · have z := of_decide_eq_true z
      rw [List.length_map] at z
      exact s_ret (ev_op (ev_var rfl) (ev_var rfl) (rv_ix (.inl (ex_l e1 hs)) (by omega) (by omega))) fun H2 e2 => k _ H2 (e1.trans e2)
    · have m3 : (0 : Int) < 1000003 := by decide
      refine s_ret (ev_op (ev_sumN (o := ns.take 1) (by
        rw [List.map_take, ← cut_take]
        exact el_sl (ev_var rfl) eo_none (eo_some ev_c) (ex_l e1 hs))) ev_c (rv_I m3)) fun H2 e2 => k _ H2 (e1.trans e2)
theorem ex_pow {σ : L2.St} {H : Hp} {ta tb : TE} {i j : Int} (ha : Ev ta σ H (.int i)) (hb : Ev tb σ H (.int j)) (h : CPowW i j) (hi : 0 < i) (s : Nat) (hs : (i ^ j.toNat).natAbs < 2 ^ s) :
    ∃ z : Int, 0 < z ∧ (Builtin.Int.intBits z : Int) ≤ s ∧ Ev (tOp (rI CPowW fun i j => .int (i ^ j.toNat)) ta tb) σ H (.int z) :=
  ⟨_, Int.pow_pos hi, Int.ofNat_le.2 (PyProof.Rows.intBits_le hs), ev_op ha hb (rv_I h)⟩
theorem ex_pow' {σ : L2.St} {H : Hp} {ta tb : TE} {i j : Int} (ha : Ev ta σ H (.int i)) (hb : Ev tb σ H (.int j)) (h : CPowW i j) (hi : 0 < i) :
    ∃ z : Int, 0 < z ∧ Ev (tOp (rI CPowW fun i j => .int (i ^ j.toNat)) ta tb) σ H (.int z) :=
  ⟨_, Int.pow_pos hi, ev_op ha hb (rv_I h)⟩
theorem ex_18 {σ : L2.St} {H : Hp} : ∃ z : Int, 0 < z ∧ Ev (tOp (rI CPowW fun i j => .int (i ^ j.toNat)) (tC (.int 10)) (tC (.int 18))) σ H (.int z) := ex_pow' ev_c ev_c ⟨by decide, by decide +kernel⟩ (by decide)
theorem ex_big {σ : L2.St} {H : Hp} : ∃ z : Int, 0 < z ∧ Ev (tOp (rI CPowW fun i j => .int (i ^ j.toNat)) (tOp (rI CPowW fun i j => .int (i ^ j.toNat)) (tC (.int 10)) (tC (.int 60))) (tC (.int 10))) σ H (.int z) :=
  let ⟨z, h0, hb, he⟩ := ex_pow (σ := σ) (H := H) (i := 10) (j := 60) ev_c ev_c ⟨by decide, by decide +kernel⟩ (by decide) 200 (by decide +kernel)
  ex_pow' he ev_c ⟨by decide, by omega⟩ h0
theorem ev_max0 {σ : L2.St} {H : Hp} {ta : TE} {i : Int} (ha : Ev ta σ H (.int i)) : Ev (tCB rMax2 (tCons ta (tCons (tC (.int 0)) tNil))) σ H (.int (if (0 : Int) > i then 0 else i)) := ev_max2 ha ev_c
theorem ev_gen1 {σ : L2.St} {H : Hp} {i : Nat} {r z : Int} {t : TE} (h : σ[i]? = some (some (.int r))) (hz : Ev t σ H (.int z)) : ∃ y : Int, Ev (tCB rInt1 (tCons (tCB rMax2 (tCons (tOp (rI0 fun i j => .int (i - j)) (tVar i) t) (tCons (tC (.int 0)) tNil))) tNil)) σ H (.int y) :=
  ⟨_, ev_intI (ev_max0 (ev_op (ev_var h) hz rv_I0))⟩
theorem gen_item {σ : L2.St} {H : Hp} {ta tb : TE} {y z : Int} (ha : Ev ta σ H (.int y)) (hb : Ev tb σ H (.int z)) (h : 0 < z) : Ev (tOp (rI (fun _ j => 0 < j) fun i j => .int (i % j)) ta tb) σ H (.int (y % z)) := ev_op ha hb (rv_I h)
theorem gen_mod {σ : L2.St} {H : Hp} {i : Nat} {r : Int} (h : σ[i]? = some (some (.int r))) : Ev (tOp (rI (fun _ j => 0 < j) fun i j => .int (i % j)) (tCB rInt1 (tCons (tVar i) tNil)) (tC (.int 2147483647))) σ H (.int (r % 2147483647)) := ev_op (ev_intI (ev_var h)) ev_c (rv_I (by decide))
theorem gen_mul {σ : L2.St} {H : Hp} {i : Nat} {r : Int} (h : σ[i]? = some (some (.int r))) : Ev (tOp (rI CMul fun i j => .int (i * j)) (tC (.int 1000)) (tVar i)) σ H (.int (1000 * r)) := ev_op ev_c (ev_var h) (rv_I (.inl (few64 (by decide) (by decide))))
theorem ok_law_generator {f : Addr} {fd : FuncData} (F : FnP K "_law_generator" "_law_generator" s_law_generator f fd) (T : Tx K w mg C D) (c_law_cell : Cal P w K mg base 1 "_law_cell" (sp_law_cell K C)) : FnOk P w K mg base CX0 2 f fd ["_law_script", "_law_index"] (sp_law_generator K C) := by
  refine fn0 F sc_law_generator (fun vs H Q E h => ?_) (fun cdv A outer s H vs Q E hr h => ?_)
  · obtain ⟨a, ns, i, rfl, _⟩ := h
    rfl
  · obtain ⟨a, ns, i, rfl, hs, hi, k⟩ := h
    refine ⟨_, (pss_cons (ps_set (i := 2) sc_law_generator.nd rfl (Or.inl rfl) (pc c_law_cell hr (pa_cons (pv 0) (pa_cons (pv 1) pa_nil))))
      (pss_one (ps_ret (pe_lst (pa_cons (pe_op op_mod (pe_callTy call_int1 (by rfl) T.b_int (by decide +kernel) (pa_cons (pe_callB (call_max2 rfl) (by rfl) T.b_max (by decide +kernel) (pa_cons (pe_op op_sub (pv 2) (pe_op op_powW pe_int pe_int)) (pa_cons pe_int pa_nil))) pa_nil)) (pe_op op_powW (pe_op op_powW pe_int pe_int) pe_int)) (pa_cons (pe_op op_mod (pe_callTy call_int1 (by rfl) T.b_int (by decide +kernel) (pa_cons (pv 2) pa_nil)) pe_int) (pa_cons (pe_op op_mul pe_int (pv 1)) pa_nil))))))), ?_⟩
    refine go_call (vs := [.ref a, .int i]) (ea_cons (ev_var rfl) (ea_cons (ev_var rfl) ea_nil)) fun H1 e1 => ⟨a, ns, i, rfl, ex_l e1 hs, fun r H2 e2 => ?_⟩
    have pos2 : (0 : Int) < 2147483647 := by decide
    obtain ⟨z1, hz1, v1⟩ := ex_18 (σ := [some (V.ref a), some (V.int (i : Int)), some (V.int r)]) (H := H2)
    obtain ⟨z2, hz2, v2⟩ := ex_big (σ := [some (V.ref a), some (V.int (i : Int)), some (V.int r)]) (H := H2)
    obtain ⟨y1, w1⟩ := ev_gen1 (i := 2) rfl v1
    have w2 := gen_item w1 v2 hz2
    have w3 := gen_mod (i := 2) (σ := [some (V.ref a), some (V.int (i : Int)), some (V.int r)]) (H := H2) rfl
    have w4 := gen_mul (i := 1) (σ := [some (V.ref a), some (V.int (i : Int)), some (V.int r)]) (H := H2) rfl
    refine s_retL (el_lst (ea_cons w2 (ea_cons w3 (ea_cons w4 ea_nil))) ?_) fun l H3 hl e3 h3 => ?_
    · show 3 ≤ 100000
      decide
    refine k l H3 (fresh_back (e1.trans e2) hl) ((e1.trans e2).trans e3) ⟨_, _, _, h3, Int.emod_nonneg _ (by omega), Int.emod_nonneg _ (by decide), ?_, by omega, by omega⟩
    have := Int.emod_lt_of_pos r pos2
    omega
/-- name, size = told -/
theorem q_told {σ : L2.St} {H : Hp} {i j1 j2 : Nat} {t : Addr} {k : Kn} {n : Nat} {D' : Ends} {tz : TS} (h : σ[i]? = some (some (.ref t))) (ht : ToldAt K H t k n) (q : tz D' ((σ.set j1 (some (.str k.s))).set j2 (some (.int n))) H) :
    tSeq (tAsg (tVar i) (gTup K 2 (gCons (gName j1) (gCons (gName j2) gNil)))) tz D' σ H :=
  ⟨_, h, t, _, rfl, ht.1, rfl, _, _, rfl, _, _, rfl, rfl, q⟩
theorem et_str {σ : L2.St} {H : Hp} {i : Nat} {k : Kn} (s : Kn) (h : σ[i]? = some (some (.str k.s))) : Ev (tOp rEq (tVar i) (tC (.str s.s))) σ H (.bl (decide (k = s))) := ev_is (ev_op (ev_var h) ev_c (rv_eq rfl)) (congrArg V.bl (Kn.eqs k s))
theorem ok_law_start {f : Addr} {fd : FuncData} (F : FnP K "_law_start" "_law_start" s_law_start f fd) (T : Tx K w mg C D)  : FnOk P w K mg base CX0 1 f fd ["_law_told"] (sp_law_start K C) := by
  refine fn0 F sc_law_start (fun vs H Q E h => ?_) (fun cdv A outer s H vs Q E hr h => ?_)
  · obtain ⟨v, ⟨t, kn, n, rfl, _⟩, k⟩ := h
    rfl
  · obtain ⟨v, ⟨t, kn, n, rfl, ht, rfl⟩, k⟩ := h
    obtain ⟨_, hr, n1, n7⟩ := id ht
    refine ⟨_, (pss_cons (ps_asg (pv 0) (pg_tup rfl (pgs_cons (pg_name (i := 1) sc_law_start.nd rfl (Or.inl rfl)) (pgs_cons (pg_name (i := 2) sc_law_start.nd rfl (Or.inl rfl)) pgs_nil))))
      (pss_one (ps_ret (pe_listRg rfl (by rfl) T.b_list (prg_2 (by rfl) T.b_range (pe_callTy call_int1 (by rfl) T.b_int (by decide +kernel) (pa_cons (pe_cmpR op_eq (pv 1) pe_str (nomark _)) pa_nil)) (pe_op op_add (pv 2) (pe_callTy call_int1 (by rfl) T.b_int (by decide +kernel) (pa_cons (pe_cmpR op_eq (pv 1) pe_str (nomark _)) pa_nil)))))))), ?_⟩
    refine q_told rfl ht ?_
    have e : (strt kn.m n).map V.int = rgV (b2z (decide (kn = .mi))) (n + b2z (decide (kn = .mi))) := by
      rw [Int.add_comm]
      cases kn
      · exact (rgV_rg 0 n).symm
      · exact (rgV_rg 1 n).symm
      · exact (rgV_rg 0 n).symm
    rw [e] at k
    refine s_retL (el_rg2 (ev_intB (et_str .mi rfl)) (ev_op (ev_var rfl) (ev_intB (et_str .mi rfl)) rv_I0) (.of_le ?_ ?_ ?_ ?_)) k
    all_goals
      cases kn <;> simp [b2z] <;> omega
theorem ok_law_steps {f : Addr} {fd : FuncData} (F : FnP K "_law_steps" "_law_steps" s_law_steps f fd) (T : Tx K w mg C D)  : FnOk P w K mg base CX0 1 f fd ["_law_told"] (sp_law_steps K C) := by
  refine fn0 F sc_law_steps (fun vs H Q E h => ?_) (fun cdv A outer s H vs Q E hr h => ?_)
  · obtain ⟨v, ⟨t, kn, n, rfl, _⟩, k⟩ := h
    rfl
  · obtain ⟨v, ⟨t, kn, n, rfl, ht, rfl⟩, k⟩ := h
    obtain ⟨_, hr, n1, n7⟩ := id ht
    refine ⟨_, (pss_cons (ps_asg (pv 0) (pg_tup rfl (pgs_cons (pg_name (i := 1) sc_law_steps.nd rfl (Or.inl rfl)) (pgs_cons (pg_name (i := 2) sc_law_steps.nd rfl (Or.inl rfl)) pgs_nil))))
      (pss_one (ps_ret (pe_op op_sub (pv 2) (pe_callTy call_int1 (by rfl) T.b_int (by decide +kernel) (pa_cons (pe_cmpR op_eq (pv 1) pe_str (nomark _)) pa_nil)))))), ?_⟩
    refine q_told rfl ht ?_
    rw [← stN_int kn n1] at k
    exact s_ret (ev_op (ev_var rfl) (ev_intB (et_str .pl rfl)) rv_I0) k
theorem eu_pair {σ : L2.St} {H : Hp} {ta tb : TE} {x y : Int} (ha : Ev ta σ H (.int x)) (hb : Ev tb σ H (.int y)) : EvU (tTup (tCons ta (tCons tb tNil))) σ H [.int x, .int y] := eu_tup (ea_cons ha (ea_cons hb ea_nil)) (by show 2 ≤ 100000; decide)
theorem eu_if {σ : L2.St} {H : Hp} {t : TT} {ta tb : TE} {b : Bool} {xs : List V} (h : EvT t σ H b) (h1 : b = true → EvU ta σ H xs) (h2 : b = false → EvU tb σ H xs) : EvU (tIf t ta tb) σ H xs := fun H1 e Q q => h H1 e _ fun H2 e2 => by
  cases b with
  | true => exact h1 rfl H2 (e.trans e2) Q fun p H3 hp e3 h3 => q p H3 (fresh_back e2 hp) (e2.trans e3) h3
  | false => exact h2 rfl H2 (e.trans e2) Q fun p H3 hp e3 h3 => q p H3 (fresh_back e2 hp) (e2.trans e3) h3
theorem ok_law_two {f : Addr} {fd : FuncData} (F : FnP K "_law_two" "_law_two" s_law_two f fd) (T : Tx K w mg C D)  : FnOk P w K mg base CX0 1 f fd ["_law_told", "_law_order_here", "_law_step"] (sp_law_two K C) := by
  refine fn0 F sc_law_two (fun vs H Q E h => ?_) (fun cdv A outer s H vs Q E hr h => ?_)
  · obtain ⟨t, a, kn, n, j, o, rfl, _⟩ := h
    rfl
  · obtain ⟨t, a, kn, n, j, o, rfl, ⟨ht, ho, vo, hj⟩, k⟩ := h
    obtain ⟨_, hri, n1, n7⟩ := id ht
    have lo := vo.len
    refine ⟨_, (pss_cons (ps_asg (pv 0) (pg_tup rfl (pgs_cons (pg_name (i := 3) sc_law_two.nd rfl (Or.inl rfl)) (pgs_cons (pg_name (i := 4) sc_law_two.nd rfl (Or.inl rfl)) pgs_nil))))
      (pss_cons (ps_if (pt_cmpR op_eq (pv 3) pe_str (nomark _)) (pss_one (ps_ret (pe_ifExp (pt_cmpR op_eq (pv 2) pe_int (nomark _)) (pe_tup (pa_cons (pe_un un_neg (pe_ix ix_seq (pv 1) pe_int (fun _ _ => rfl))) (pa_cons (pe_ix ix_seq (pv 1) pe_int (fun _ _ => rfl)) pa_nil))) (pe_tup (pa_cons (pe_ix ix_seq (pv 1) (pe_op op_sub (pv 2) pe_int) (fun _ _ => rfl)) (pa_cons (pe_ix ix_seq (pv 1) (pv 2) (fun _ _ => rfl)) pa_nil)))))) pss_nil)
      (pss_cons (ps_if (PW.pt (pw_and (pt_cmpR op_eq (pv 3) pe_str (nomark _)) (pw_and1 (pt_cmpR op_eq (pv 2) (pe_op op_sub (pv 4) pe_int) (nomark _))))) (pss_one (ps_ret (pe_tup (pa_cons (pe_ix ix_seq (pv 1) (pv 2) (fun _ _ => rfl)) (pa_cons (pe_op op_add (pe_ix ix_seq (pv 1) pe_int (fun _ _ => rfl)) (pv 4)) pa_nil))))) pss_nil)
      (pss_one (ps_ret (pe_tup (pa_cons (pe_ix ix_seq (pv 1) (pv 2) (fun _ _ => rfl)) (pa_cons (pe_ix ix_seq (pv 1) (pe_op op_add (pv 2) pe_int) (fun _ _ => rfl)) pa_nil)))))))), ?_⟩
    refine q_told rfl ht ?_
    refine q_when (et_test (et_str .mi rfl)) (fun z H1 e1 => ?_) (fun z H1 e1 => ?_)
    · have z := of_decide_eq_true z
      subst z
      have hj' : j < n := hj
      have sq : Sq K H1 a (o.map V.int) := .inl (sq_of (e1 _ _ ho))
      refine s_retU (eu_if (b := decide (j = 0)) (et_test (ev_is (ev_op (ev_var rfl) ev_c (rv_eq rfl)) ?_)) (fun y => ?_) (fun y => ?_)) fun p H2 hp e2 h2 => k p H2 (fresh_back e1 hp) (e1.trans e2) h2
      · simp [dec_int]
      · have y := of_decide_eq_true y
        subst y
        exact eu_pair (ev_un (ev_op (ev_var rfl) ev_c (rv_ix sq (by decide) (by omega))) ru_neg) (ev_op (ev_var rfl) ev_c (rv_ix sq (by decide) (by omega)))
      · have y := of_decide_eq_false y
        obtain ⟨i, rfl⟩ : ∃ i, j = i + 1 := ⟨j - 1, by omega⟩
        refine eu_pair (ev_is (ev_op (ev_var rfl) (ev_op (ev_var rfl) ev_c rv_I0) (rv_ix sq (by omega) (by omega))) ?_) (ev_is (ev_op (ev_var rfl) (ev_var rfl) (rv_ix sq (by omega) (by omega))) ?_)
        · rw [show (((i + 1 : Nat) : Int) - 1).toNat = i by omega]
          rfl
        · rw [show (((i + 1 : Nat) : Int)).toNat = i + 1 by omega]
          rfl
    · have z := of_decide_eq_false z
      have hk : kn = .pl := by cases kn <;> first | rfl | exact absurd rfl z | exact absurd rfl hri
      subst hk
      have hj' : j < n - 1 := hj
      refine q_when (b := false) (et_is (et_and (b := true) (et_test (et_str .ri rfl)) fun z => by cases z) rfl) (fun y => by cases y) (fun _ H2 e2 => ?_)
      have sq : Sq K H2 a (o.map V.int) := .inl (sq_of ((e1.trans e2) _ _ ho))
      refine s_retU (eu_pair (ev_is (ev_op (ev_var rfl) (ev_var rfl) (rv_ix sq (by omega) (by omega))) ?_) (ev_is (ev_op (ev_var rfl) (ev_op (ev_var rfl) ev_c rv_I0) (rv_ix sq (by omega) (by omega))) ?_)) fun p H3 hp e3 h3 => k p H3 (fresh_back (e1.trans e2) hp) ((e1.trans e2).trans e3) h3
      · rw [show ((j : Int)).toNat = j by omega]
        rfl
      · rw [show ((j : Int) + 1).toNat = j + 1 by omega]
        rfl
/-- low, high = _law_two(..) -/
theorem q_two {σ : L2.St} {H : Hp} {i1 i2 i3 j1 j2 : Nat} {t a : Addr} {k : Kn} {n j : Nat} {o : List Int} {D' : Ends} {tz : TS} (h1 : σ[i1]? = some (some (.ref t))) (h2 : σ[i2]? = some (some (.ref a))) (h3 : σ[i3]? = some (some (.int (j : Int)))) (ht : TakenAt K H t a k n o j)
    (q : ∀ H2, Ex H H2 → tz D' ((σ.set j1 (some (.int (two' k.m o j).1))).set j2 (some (.int (two' k.m o j).2))) H2) :
    tSeq (tAsg (tCall (sp_law_two K C) [] E0 (tCons (tVar i1) (tCons (tVar i2) (tCons (tVar i3) tNil)))) (gTup K 2 (gCons (gName j1) (gCons (gName j2) gNil)))) tz D' σ H :=
  go_call (vs := [.ref t, .ref a, .int (j : Int)]) (ea_cons (ev_var h1) (ea_cons (ev_var h2) (ea_cons (ev_var h3) ea_nil))) fun H1 e1 => ⟨t, a, k, n, j, o, rfl, ht.mono e1, fun p H2 hp e2 hp2 => ⟨p, _, rfl, st_of hp2, rfl, _, _, rfl, _, _, rfl, rfl, q H2 (e1.trans e2)⟩⟩
theorem ok_law_crossed {f : Addr} {fd : FuncData} (F : FnP K "_law_crossed" "_law_crossed" s_law_crossed f fd) (T : Tx K w mg C D) (c_law_two : Cal P w K mg base 1 "_law_two" (sp_law_two K C)) : FnOk P w K mg base CX0 2 f fd ["_law_told", "_law_order_here", "_law_step"] (sp_law_crossed K C) := by
  refine fn0 F sc_law_crossed (fun vs H Q E h => ?_) (fun cdv A outer s H vs Q E hr h => ?_)
  · obtain ⟨v, ⟨t, a, kn, n, j, o, rfl, _⟩, k⟩ := h
    rfl
  · obtain ⟨v, ⟨t, a, kn, n, j, o, rfl, ht, rfl⟩, k⟩ := h
    refine ⟨_, (pss_cons (ps_asg (pc c_law_two hr (pa_cons (pv 0) (pa_cons (pv 1) (pa_cons (pv 2) pa_nil)))) (pg_tup rfl (pgs_cons (pg_name (i := 3) sc_law_crossed.nd rfl (Or.inl rfl)) (pgs_cons (pg_name (i := 4) sc_law_crossed.nd rfl (Or.inl rfl)) pgs_nil))))
      (pss_one (ps_ret (pe_cmpR op_gt (pv 3) (pv 4) (nomark _))))), ?_⟩
    exact q_two rfl rfl rfl ht fun H1 e1 => s_ret (ev_op (ev_var rfl) (ev_var rfl) rv_I0) fun H2 e2 => k H2 (e1.trans e2)
theorem el_mid {σ : L2.St} {H : Hp} {a : Addr} {o : List Int} {to ti tj tx ty : TE} {i j : Nat} {x y : Int} (h1 : Ev to σ H (.ref a)) (ho : Ls H a o) (hi : Ev ti σ H (.int (i : Int))) (hj : Ev tj σ H (.int (j : Int))) (hx : Ev tx σ H (.int x)) (hy : Ev ty σ H (.int y)) (hl : o.length ≤ 1000) :
    EvL (tOp rCat (tOp rCat (tSl (rSlL K) to tNoPart (tPart ti)) (tLst (tCons tx (tCons ty tNil)))) (tSl (rSlL K) to (tPart tj) tNoPart)) σ H ((o.take i ++ [x, y] ++ o.drop j).map V.int) := by
  rw [List.map_append, List.map_append, List.map_take, List.map_drop, ← cut_take, ← cut_drop]
  have l1 : (cutV (o.map V.int) none (some (i : Int))).length ≤ 1000 := by
    rw [cut_take, List.length_take, List.length_map]
    omega
  have l2 : (cutV (o.map V.int) (some (j : Int)) none).length ≤ 1000 := by
    rw [cut_drop, List.length_drop, List.length_map]
    omega
  refine el_cat (el_cat (el_sl h1 eo_none (eo_some hi) (sq_of ho)) (el_lst (ea_cons hx (ea_cons hy ea_nil)) (by show 2 ≤ 100000; decide)) (by omega) (by show 2 ≤ 10000; decide)) (el_sl h1 (eo_some hj) eo_none (sq_of ho)) ?_ (by omega)
  rw [List.length_append]
  show _ + 2 ≤ 10000
  omega
theorem ok_law_stepped {f : Addr} {fd : FuncData} (F : FnP K "_law_stepped" "_law_stepped" s_law_stepped f fd) (T : Tx K w mg C D) (c_law_two : Cal P w K mg base 1 "_law_two" (sp_law_two K C)) : FnOk P w K mg base CX0 2 f fd ["_law_told", "_law_order_here", "_law_step"] (sp_law_stepped K C) := by
  refine fn0 F sc_law_stepped (fun vs H Q E h => ?_) (fun cdv A outer s H vs Q E hr h => ?_)
  · obtain ⟨v, ⟨t, a, kn, n, j, o, rfl, _⟩, k⟩ := h
    rfl
  · obtain ⟨v, ⟨t, a, kn, n, j, o, rfl, hta, rfl⟩, k⟩ := h
    obtain ⟨ht, ho, vo, hj⟩ := id hta
    obtain ⟨_, hri, n1, n7⟩ := id ht
    have lo := vo.len
    refine ⟨_, (pss_cons (ps_asg (pv 0) (pg_tup rfl (pgs_cons (pg_name (i := 3) sc_law_stepped.nd rfl (Or.inl rfl)) (pgs_cons (pg_name (i := 4) sc_law_stepped.nd rfl (Or.inl rfl)) pgs_nil))))
      (pss_cons (ps_asg (pc c_law_two hr (pa_cons (pv 0) (pa_cons (pv 1) (pa_cons (pv 2) pa_nil)))) (pg_tup rfl (pgs_cons (pg_name (i := 5) sc_law_stepped.nd rfl (Or.inl rfl)) (pgs_cons (pg_name (i := 6) sc_law_stepped.nd rfl (Or.inl rfl)) pgs_nil))))
      (pss_cons (ps_if (pt_cmpR op_eq (pv 3) pe_str (nomark _)) (pss_one (ps_ret (pe_ifExp (pt_cmpR op_eq (pv 2) pe_int (nomark _)) (pe_op op_cat (pe_lst (pa_cons (pv 5) pa_nil)) (pe_slice sl_list (pv 1) (po_some pe_int) po_none)) (pe_op op_cat (pe_op op_cat (pe_slice sl_list (pv 1) po_none (po_some (pe_op op_sub (pv 2) pe_int))) (pe_lst (pa_cons (pv 6) (pa_cons (pv 5) pa_nil)))) (pe_slice sl_list (pv 1) (po_some (pe_op op_add (pv 2) pe_int)) po_none))))) pss_nil)
      (pss_cons (ps_if (PW.pt (pw_and (pt_cmpR op_eq (pv 3) pe_str (nomark _)) (pw_and1 (pt_cmpR op_eq (pv 2) (pe_op op_sub (pv 4) pe_int) (nomark _))))) (pss_one (ps_ret (pe_op op_cat (pe_op op_cat (pe_lst (pa_cons (pe_op op_sub (pv 5) (pv 4)) pa_nil)) (pe_slice sl_list (pv 1) (po_some pe_int) (po_some (pv 2)))) (pe_lst (pa_cons (pv 6) pa_nil))))) pss_nil)
      (pss_one (ps_ret (pe_op op_cat (pe_op op_cat (pe_slice sl_list (pv 1) po_none (po_some (pv 2))) (pe_lst (pa_cons (pv 6) (pa_cons (pv 5) pa_nil)))) (pe_slice sl_list (pv 1) (po_some (pe_op op_add (pv 2) pe_int)) po_none)))))))), ?_⟩
    refine q_told rfl ht ?_
    refine q_two rfl rfl rfl hta fun H0 e0 => ?_
    refine q_when (et_test (et_str .mi rfl)) (fun z H1 e1 => ?_) (fun z H1 e1 => ?_)
    · have z := of_decide_eq_true z
      subst z
      have hj' : j < n := hj
      have e01 := e0.trans e1
      have ho1 : Ls H1 a o := e01 _ _ ho
      refine s_retL (el_if (b := decide (j = 0)) (et_test (ev_is (ev_op (ev_var rfl) ev_c (rv_eq rfl)) ?_)) (fun y => ?_) (fun y => ?_)) fun p H2 hp e2 h2 => k p H2 (fresh_back e01 hp) (e01.trans e2) h2
      · simp [dec_int]
      · have y := of_decide_eq_true y
        subst y
        show EvL _ _ _ (([-(gd o 0)] ++ o.drop 1).map V.int)
        rw [List.map_append, List.map_drop, ← cut_drop]
        refine el_cat (el_lst (ea_cons (ev_var rfl) ea_nil) (by show 1 ≤ 100000; decide)) (el_sl (ev_var rfl) (eo_some ev_c) eo_none (sq_of ho1)) (by show 1 ≤ 10000; decide) ?_
        rw [cut_drop, List.length_drop, List.length_map]
        omega
      · have y := of_decide_eq_false y
        obtain ⟨i, rfl⟩ : ∃ i, j = i + 1 := ⟨j - 1, by omega⟩
        exact el_mid (i := i) (j := i + 2) (ev_var rfl) ho1 (ev_is (ev_op (ev_var rfl) ev_c rv_I0) (by show V.int (((i + 1 : Nat) : Int) - 1) = _; congr 1; omega)) (ev_is (ev_op (ev_var rfl) ev_c rv_I0) (by show V.int (((i + 1 : Nat) : Int) + 1) = _; congr 1)) (ev_var rfl) (ev_var rfl) (by omega)
    · have z := of_decide_eq_false z
      have hk : kn = .pl := by cases kn <;> first | rfl | exact absurd rfl z | exact absurd rfl hri
      subst hk
      have hj' : j < n - 1 := hj
      refine q_when (b := false) (et_is (et_and (b := true) (et_test (et_str .ri rfl)) fun z => by cases z) rfl) (fun y => by cases y) (fun _ H2 e2 => ?_)
      have e02 := e0.trans (e1.trans e2)
      exact s_retL (el_mid (i := j) (j := j + 2) (ev_var rfl) (e02 _ _ ho) (ev_var rfl) (ev_is (ev_op (ev_var rfl) ev_c rv_I0) (by rw [Int.natCast_add]; rfl)) (ev_var rfl) (ev_var rfl) (by omega)) fun p H3 hp e3 h3 => k p H3 (fresh_back e02 hp) (e02.trans e3) h3
theorem mid_perm {o : List Int} {i : Nat} (h : i + 1 < o.length) : (o.take i ++ [gd o (i + 1), gd o i] ++ o.drop (i + 2)).Perm o := by
  have e : o = o.take i ++ ([gd o i, gd o (i + 1)] ++ o.drop (i + 2)) := by
    conv => lhs; rw [← List.take_append_drop i o, drop_gd (show i < o.length by omega), drop_gd h]
    rfl
  rw [List.append_assoc]
  conv => rhs; rw [e]
  exact List.Perm.append_left _ (List.Perm.append_right _ (List.Perm.swap _ _ _))
theorem lst_vd {k : Kn} {n j : Nat} {o : List Int} (hr : k ≠ .ri) (h : Vd k.m n o) (hj : j < stN k n) : Vd k.m n (lst' k.m o j) := by
  have hl := h.len
  cases k with
  | ri => exact absurd rfl hr
  | pl =>
    have h1 : o.Perm (rg 0 n) := h
    have hj' : j < n - 1 := hj
    exact (mid_perm (by omega)).trans h1
  | mi =>
    have h1 : (o.map ab).Perm (rg 1 n) := h
    have hj' : j < n := hj
    cases j with
    | zero =>
      show (([-(gd o 0)] ++ o.drop 1).map ab).Perm (rg 1 n)
      have e : ([-(gd o 0)] ++ o.drop 1).map ab = o.map ab := by
        cases o with
        | nil => simp at hl; omega
        | cons x t =>
          show ab (-x) :: t.map ab = ab x :: t.map ab
          rw [ab_neg]
      rw [e]
      exact h1
    | succ i => exact ((mid_perm (by omega)).map ab).trans h1
theorem ok_law_gains {f : Addr} {fd : FuncData} (F : FnP K "_law_gains" "_law_gains" s_law_gains f fd) (T : Tx K w mg C D) (c_law_crossed : Cal P w K mg base 2 "_law_crossed" (sp_law_crossed K C)) (c_law_stepped : Cal P w K mg base 2 "_law_stepped" (sp_law_stepped K C)) : FnOk P w K mg base CX0 3 f fd ["_law_told", "_law_order_here", "_law_row_here"] (sp_law_gains K C) := by
  refine fn0 F sc_law_gains (fun vs H Q E h => ?_) (fun cdv A outer s H vs Q E hr h => ?_)
  · obtain ⟨t, a, b, kn, n, o, r, rfl, _⟩ := h
    rfl
  · obtain ⟨t, a, b, kn, n, o, r, rfl, ht, ho, vo, hb, hr2, k⟩ := h
    refine ⟨_, (pss_cons (ps_set (i := 3) sc_law_gains.nd rfl (Or.inl rfl) (pe_callTy call_list_of (by rfl) T.b_list (by decide +kernel) (pa_cons (pv 1) pa_nil)))
      (pss_cons (ps_for PassesOwn.never rfl (pi_list (pv 2)) (pg_name (i := 4) sc_law_gains.nd rfl (Or.inl rfl))
      (pss_one (ps_if (pt_not (pt_val (pc c_law_crossed hr (pa_cons (pv 0) (pa_cons (pv 3) (pa_cons (pv 4) pa_nil)))))) (pss_one (ps_set (i := 3) sc_law_gains.nd rfl (Or.inl rfl) (pc c_law_stepped hr (pa_cons (pv 0) (pa_cons (pv 3) (pa_cons (pv 4) pa_nil)))))) pss_nil)))
      (pss_one (ps_ret (pv 3))))), ?_⟩
    refine q_asgL (el_list (ev_var rfl) (sq_of ho)) fun l H1 hl0 e1 h1 => ?_
    refine q_forLn (xs := (nI r).map V.int) (ev_var rfl) (sq_of (e1 _ _ hb)) (fun i σ' H' => ∃ (f : List Int) (pl : Addr) (x4 : Option V), σ' = [some (.ref t), some (.ref a), some (.ref b), some (.ref pl), x4] ∧ H pl = none ∧ Ex H H' ∧ Ls H' pl f ∧ Vd kn.m n f)
      (fun H2 e2 => ⟨o, l, none, rfl, hl0, e1.trans e2, e2 _ _ h1, vo⟩) (fun i σ' H' _ ⟨_, _, _, _, _, e, _⟩ => sq_of (e _ _ hb)) ?_ ?_
    · rintro i x σ' H' hi ⟨f, pl, x4, rfl, hn, e, hf, vf⟩
      obtain ⟨j, rfl, hj, hd⟩ := nI_get hi
      have hta : TakenAt K H' t pl kn n f j := ⟨ht.mono e, hf, vf, hr2 j hj⟩
      refine s_when (et_not (et_B (ev_call (ea_cons (ev_var rfl) (ea_cons (ev_var rfl) (ea_cons (ev_var rfl) ea_nil))) (PV.sp fun H2 e2 => ⟨t, pl, kn, n, j, f, rfl, hta.mono e2, rfl⟩)))) (fun z H2 e2 => ?_) (fun z H2 e2 => ?_)
      · refine s_asgL (el_call (ea_cons (ev_var rfl) (ea_cons (ev_var rfl) (ea_cons (ev_var rfl) ea_nil))) (PL.sp fun H3 e3 => ⟨t, pl, kn, n, j, f, rfl, hta.mono (e2.trans e3), rfl⟩)) fun q H3 hq e3 h3 => ?_
        exact ⟨lst' kn.m f j, q, _, rfl, fresh_back (e.trans e2) hq, (e.trans e2).trans e3, h3, lst_vd ht.2.1 vf (hr2 j hj)⟩
      · exact ⟨f, pl, _, rfl, hn, e.trans e2, e2 _ _ hf, vf⟩
    · rintro σ' H' ⟨f, pl, x4, rfl, hn, e, hf, vf⟩
      exact s_ret (ev_var rfl) fun H2 e2 => k pl H2 f hn (e.trans e2) (e2 _ _ hf) vf
end
end SL

set_option Elab.async false
set_option linter.all false
set_option maxRecDepth 100000
set_option maxHeartbeats 1000000
namespace SL
open PySem PySem.Spec PyProof.Rows L2 Evl
section
variable {P : Program} {w : World} {K : PySem.W.Frag} {mg : Str → Option Value} {base : Heap} {C D : Addr}
theorem Exl.back {g p : Addr} {H H' : Hp} (e : Exl g H H') (hp : p ≠ g) (h : H' p = none) : H p = none := by
  cases h1 : H p with
  | none => rfl
  | some o => rw [e p o hp h1] at h; cases h
theorem GenAt.new {H : Hp} {g p : Addr} {m : Int} (h : GenAt H g m) (hp : H p = none) : p ≠ g := by
  obtain ⟨a, s, c, h1, _⟩ := h
  intro e
  rw [e, h1] at hp
  cases hp
theorem stN_le {k : Kn} {n : Nat} : stN k n ≤ n := by
  unfold stN
  split <;> omega
section
variable {σ : L2.St} {H : Hp} {ta te : TE} {t : TT} {tr ts : TA} {x : V} {xs : List V} {Q : VK} {QA : List V → Hp → Prop} {D' : Ends}
theorem g_ret (h : te σ H D'.rt) : tRet te D' σ H := h
theorem g_call {sp : Sp} (h : ts σ H fun vs H1 => sp (vs ++ []) H1 Q E0) : tCall sp [] E0 ts σ H Q := h
theorem gc_V (h : Ev ta σ H x) (k : ∀ H1, Ex H H1 → tr σ H1 fun ys H2 => QA (x :: ys) H2) : tCons ta tr σ H QA := h H (Ex.refl H) _ k
theorem gc_L (h : EvL ta σ H xs) (k : ∀ p H1, H p = none → Ex H H1 → H1 p = some (.lst xs) → tr σ H1 fun ys H2 => QA (.ref p :: ys) H2) : tCons ta tr σ H QA := h H (Ex.refl H) _ k
theorem gc_call {sp : Sp} {vs : List V} (h : EvA ts σ H vs) (k : ∀ H1, Ex H H1 → sp (vs ++ []) H1 (fun y H2 => tr σ H2 fun ys H3 => QA (y :: ys) H3) E0) : tCons (tCall sp [] E0 ts) tr σ H QA := h H (Ex.refl H) _ k
theorem s_lcR {n : Int} {j : Nat} {vs : List Nat} (h : EvA ts σ H [.int n]) (hn : 0 ≤ n ∧ n ≤ 40000) (hw : ∀ x, wipe ((wipe σ vs).set j (some x)) vs = wipe σ vs) (k : ∀ H1, Ex H H1 → ∀ Dl, H1 Dl = none → ∃ Pv : Nat → Hp → Prop, Pv 0 (upd H1 Dl (.lst [])) ∧
    (∀ i H', i < n.toNat → Pv i H' → te ((wipe σ vs).set j (some (.int (0 + (i : Int))))) H' fun y H4 => ∃ acc, H4 Dl = some (.lst acc) ∧ acc.length < sizeLine ∧ Pv (i + 1) (upd H4 Dl (.lst (acc ++ [y])))) ∧ ∀ H', Pv n.toNat H' → D'.rt (.ref Dl) H') :
    tRet (tLc (iRng1 ts) (gName j) tYes te vs) D' σ H := h H (Ex.refl H) _ fun H1 e1 => ⟨n, rfl, by omega, by omega, fun Dl hD => by
      obtain ⟨Pv, h0, hs, hd⟩ := k H1 e1 Dl hD
      exact lc_range (lo := 0) (n := n.toNat) Pv h0 (fun i H' hi p => ⟨hw _, hs i H' hi p⟩) hd⟩
end
theorem ok_law_row {f : Addr} {fd : FuncData} (F : FnP K "_law_row" "_law_row" s_law_row f fd) (T : Tx K w mg C D) (c_law_random : Cal P w K mg base 2 "_law_random" (sp_law_random K C)) (c_law_steps : Cal P w K mg base 1 "_law_steps" (sp_law_steps K C)) : FnOk P w K mg base CX0 3 f fd ["_law_generator_here", "_law_told", "_law_most"] (sp_law_row K C) := by
  refine fn0 F sc_law_row (fun vs H Q E h => ?_) (fun cdv A outer s H vs Q E hr h => ?_)
  · obtain ⟨g, t, kn, n, mo, m, rfl, _⟩ := h
    rfl
  · obtain ⟨g, t, kn, n, mo, m, rfl, hg, m8, ht, s1, mo1, k⟩ := h
    refine ⟨_, (pss_cons (ps_asg (pe_tup (pa_cons (pc c_law_random hr (pa_cons (pv 0) (pa_cons (pe_op op_add (pv 2) pe_int) pa_nil))) (pa_cons (pc c_law_steps hr (pa_cons (pv 1) pa_nil)) pa_nil))) (pg_tup rfl (pgs_cons (pg_name (i := 3) sc_law_row.nd rfl (Or.inl rfl)) (pgs_cons (pg_name (i := 4) sc_law_row.nd rfl (Or.inr rfl)) pgs_nil))))
      (pss_one (ps_ret (pe_lc (own := [("_law_turn", 5)]) (g := gName 5) (tt := tYes) (by rfl) sc_law_row.nd (pi_range1 rfl T.b_range (pa_cons (pe_op op_mul (pv 3) (pe_callTy call_int1 (by rfl) T.b_int (by decide +kernel) (pa_cons (pe_cmpR op_gt (pv 4) pe_int (nomark _)) pa_nil))) pa_nil)) (blkOk_by (own := [("_law_turn", 5)]) (N := N_law_row) (sc := defScope s_law_row) (by decide +kernel)) (fun _ _ _ _ _ => pg_name (i := 5) sc_law_row.nd rfl (Or.inl rfl)) (fun _ _ _ _ _ => pts_nil) (fun _ _ _ _ _ => (pc c_law_random hr (pa_cons (pv 0) (pa_cons (pv 4) pa_nil)))))))), ?_⟩
    have n7 := ht.2.2.2
    have sl : stN kn n ≤ n := stN_le
    refine go_call (vs := [.ref g, .int ((mo : Int) + 1)]) (ea_cons (ev_var rfl) (ea_cons (ev_op (ev_var rfl) ev_c rv_I0) ea_nil)) fun H1 e1 => ⟨g, mo + 1, m, rfl, by omega, by omega, hg.mono e1, by omega, fun r H2 hr2 hg2 x2 => ?_⟩
    have x12 : Exl g H H2 := (Exl.of e1).trans x2
    have ht2 := ht.exl hg x12
    refine gc_V (ev_call (ea_cons (ev_var rfl) ea_nil) (PV.sp fun H3 e3 => ⟨t, kn, n, rfl, (ht2.mono e3).at K, rfl⟩)) fun H3 e3 => ?_
    refine ⟨by show 2 ≤ sizeLine; decide, fun p hp => ⟨p, _, rfl, st_of upd_same, rfl, _, _, rfl, _, _, rfl, rfl, ?_⟩⟩
    have e23 := e3.trans (Ex.new (o := .tup [V.int (r : Int), V.int (stN kn n : Nat)]) hp)
    generalize (L2.upd H3 p (.tup [V.int (r : Int), V.int (stN kn n : Nat)])) = H4 at e23 ⊢
    have hg4 := hg2.mono e23
    have x4 : Exl g H H4 := x12.trans (Exl.of e23)
    have eb : (r : Int) * b2z (decide ((0 : Int) < (stN kn n : Nat))) = r := by
      rw [decide_eq_true (by omega)]
      show (r : Int) * 1 = r
      omega
    have hm : CMul (r : Int) (b2z (decide ((0 : Int) < (stN kn n : Nat)))) := .inl (few64 (by omega) (by omega))
    refine s_lcR (n := (r : Int)) (ea_cons (ev_is (ev_op (ev_var rfl) (ev_intB (ev_op (ev_var rfl) ev_c rv_I0)) (rv_I hm)) (congrArg V.int eb)) ea_nil) ⟨by omega, by omega⟩ (fun _ => rfl) fun H5 e5 Dl hD => ?_
    have hg5 := hg4.mono e5
    have x5 : Exl g H H5 := x4.trans (Exl.of e5)
    have hDg := hg5.new hD
    refine ⟨fun i H' => ∃ q : List Nat, q.length = i ∧ (∀ j ∈ q, j < stN kn n) ∧ Exl g H H' ∧ GenAt H' g (m + 1 + (i : Int)) ∧ H' Dl = some (.lst ((nI q).map V.int)), ?_, fun i H' hi p => ?_, fun H' p => ?_⟩
    · exact ⟨[], rfl, (fun _ h => by cases h), x5.trans (Exl.of (Ex.new hD)), (hg5.mono (Ex.new hD)).le (by omega), upd_same⟩
    · obtain ⟨q, ql, qs, xx, gg, hq⟩ := p
      refine go_call (vs := [.ref g, .int (stN kn n : Nat)]) (ea_cons (ev_var rfl) (ea_cons (ev_var rfl) ea_nil)) fun H6 e6 => ⟨g, stN kn n, m + 1 + (i : Int), rfl, s1, by omega, gg.mono e6, by omega, fun z H7 hz hg7 x7 => ?_⟩
      have hq7 := x7 _ _ hDg (e6 _ _ hq)
      refine ⟨_, hq7, ?_, q ++ [z], by rw [List.length_append, ql]; rfl, fun j hj => ?_, ?_, ?_, ?_⟩
      · rw [nI_len]
        exact sz_lt (by omega)
      · rcases List.mem_append.mp hj with hj | hj
        · exact qs j hj
        · rw [List.mem_singleton.mp hj]
          exact hz
      · intro b o hb hbo
        have hbD : b ≠ Dl := fun e => by
          subst e
          rw [(x5.back hDg hD)] at hbo
          cases hbo
        rw [upd_ne hbD]
        exact x7 b o hb (e6 b o (xx b o hb hbo))
      · obtain ⟨a, s, c, h1, h2⟩ := hg7
        exact ⟨a, s, c, by rw [upd_ne (Ne.symm hDg)]; exact h1, by omega⟩
      · rw [upd_same]
        congr 2
        unfold nI
        rw [List.map_append, List.map_append]
        rfl
    · obtain ⟨q, ql, qs, xx, gg, hq⟩ := p
      exact k Dl H' q (x5.back hDg hD) xx (gg.le (by omega)) hq qs
theorem ok_law_order {f : Addr} {fd : FuncData} (F : FnP K "_law_order" "_law_order" s_law_order f fd) (T : Tx K w mg C D) (c_law_gains : Cal P w K mg base 3 "_law_gains" (sp_law_gains K C)) (c_law_start : Cal P w K mg base 1 "_law_start" (sp_law_start K C)) (c_law_row : Cal P w K mg base 3 "_law_row" (sp_law_row K C)) : FnOk P w K mg base CX0 4 f fd ["_law_generator_here", "_law_told", "_law_most"] (sp_law_order K C) := by
  refine fn0 F sc_law_order (fun vs H Q E h => ?_) (fun cdv A outer s H vs Q E hr h => ?_)
  · obtain ⟨g, t, kn, n, mo, m, rfl, _⟩ := h
    rfl
  · obtain ⟨g, t, kn, n, mo, m, rfl, hg, m8, ht, s1, mo1, k⟩ := h
    refine ⟨_, (pss_one (ps_ret (pc c_law_gains hr (pa_cons (pv 1) (pa_cons (pc c_law_start hr (pa_cons (pv 1) pa_nil)) (pa_cons (pc c_law_row hr (pa_cons (pv 0) (pa_cons (pv 1) (pa_cons (pv 2) pa_nil)))) pa_nil)))))), ?_⟩
    refine g_ret (g_call (gc_V (ev_var rfl) fun H1 e1 => ?_))
    refine gc_L (el_call (ea_cons (ev_var rfl) ea_nil) (PL.sp fun H3 e3 => ⟨t, kn, n, rfl, (ht.mono (e1.trans e3)).at K, rfl⟩)) fun a H2 ha0 e2 ha => ?_
    have hg2 := hg.mono (e1.trans e2)
    have ht2 := ht.mono (e1.trans e2)
    refine gc_call (vs := [.ref g, .ref t, .int (mo : Int)]) (ea_cons (ev_var rfl) (ea_cons (ev_var rfl) (ea_cons (ev_var rfl) ea_nil))) fun H3 e3 => ⟨g, t, kn, n, mo, m, rfl, hg2.mono e3, m8, ht2.mono e3, s1, mo1, fun b H4 r hb0 x4 hg4 hb hr2 => ?_⟩
    have hag : a ≠ g := (hg.mono e1).new ha0
    have x04 : Exl g H H4 := (Exl.of ((e1.trans e2).trans e3)).trans x4
    refine ⟨t, a, b, kn, n, strt kn.m n, r, rfl, (ht.exl hg x04).at K, x4 _ _ hag (e3 _ _ ha), vd_strt _ _, hb, hr2, fun l H5 o2 hl e5 h5 vo => ?_⟩
    exact k l H5 o2 (x04.back (hg4.new hl) hl) (x04.trans (Exl.of e5)) (hg4.mono e5) h5 vo
def srt (n : Nat) : List Int := (rg 1 n).reverse.map (fun x => -x) ++ rg 1 n
def base2 (o : List Int) : List Int := o.reverse.map (fun x => -x) ++ o
def plc (n : Nat) (x : Int) : Nat := (x + (n : Int) - b2z (decide (0 < x))).toNat
def okU (n : Nat) (o : List Int) : Bool := (base2 o).isPerm (srt n) && (base2 o).all fun x => decide (0 ≤ x + (n : Int) - b2z (decide (0 < x))) && (srt n)[plc n x]? == some x && (List.range (plc n x)).all fun m => (srt n)[m]? != some x
theorem look_u : (List.range 4).all (fun n => every true n (okU n)) = true := by decide +kernel
theorem okU_of {n : Nat} {o : List Int} (h3 : n ≤ 3) (h : Vd true n o) : okU n o = true := every_ok (List.all_eq_true.mp look_u n (List.mem_range.mpr (by omega))) h
theorem srt_up (n : Nat) (h : n ≤ 3) : (srt n).Pairwise (· ≤ ·) := by
  have : n = 0 ∨ n = 1 ∨ n = 2 ∨ n = 3 := by omega
  rcases this with rfl | rfl | rfl | rfl <;> decide
theorem ev_index {σ : L2.St} {H : Hp} {to te : TE} {s : List Int} {x : Int} {j : Nat} (ho : EvL to σ H (s.map V.int)) (he : Ev te σ H (.int x)) (hj : s[j]? = some x) (hm : ∀ m, m < j → s[m]? ≠ some x) : Ev (tBM K "list" (rIndex K) to (tCons te tNil)) σ H (.int (j : Nat)) := fun H1 e Q q =>
  ho H1 e _ fun a H2 ha e2 h2 => ⟨Or.inl ⟨rfl, _, sq_of h2⟩, he H2 (e.trans e2) _ fun H3 e3 => ⟨a, s.map V.int, .int x, j, .int x, rfl, rfl, sq_of (e3 _ _ h2), rfl, List.all_eq_true.mpr (fun y hy => by
    obtain ⟨z, _, rfl⟩ := List.mem_map.mp hy
    rfl), by rw [List.getElem?_map, hj]; rfl, by show (x == x) = true; exact beq_self_eq_true x, fun m z hm2 hz => by
    rw [List.getElem?_map] at hz
    cases h4 : s[m]? with
    | none => rw [h4] at hz; cases hz
    | some y =>
      rw [h4] at hz
      cases Option.some.inj hz
      show (y == x) = false
      rw [beq_eq_false_iff_ne]
      intro e4
      exact hm m hm2 (e4 ▸ h4), q H3 (e2.trans e3)⟩⟩
def sp_law_unfolded (K : PySem.W.Frag) (C : Addr) : Sp := PL fun vs H xs => ∃ (a : Addr) (n : Nat) (o : List Int), vs = [.ref a] ∧ Ls H a o ∧ 1 ≤ n ∧ n ≤ 3 ∧ Vd true n o ∧ xs = (unf n o).map V.int
abbrev s_law_unfolded : Stmt := tp 70
abbrev N_law_unfolded : List Str := ["_law_order_here", "_law_items", "_law_item"]
theorem sc_law_unfolded : FnScope N_law_unfolded ["_law_order_here"] (defScope s_law_unfolded) := ⟨rfl, rfl, rfl, by decide +kernel, rfl, by decide +kernel, by decide +kernel⟩
theorem ok_law_unfolded {f : Addr} {fd : FuncData} (F : FnP K "_law_unfolded" "_law_unfolded" s_law_unfolded f fd) (T : Tx K w mg C D)  : FnOk P w K mg base CX0 1 f fd ["_law_order_here"] (sp_law_unfolded K C) := by
  refine fn0 F sc_law_unfolded (fun vs H Q E h => ?_) (fun cdv A outer s H vs Q E hr h => ?_)
  · obtain ⟨v, ⟨a, n, o, rfl, _⟩, k⟩ := h
    rfl
  · obtain ⟨v, ⟨a, n, o, rfl, ho, n1, n3, vo, rfl⟩, k⟩ := h
    have lo := vo.len
    have ok := okU_of n3 vo
    unfold okU at ok
    rw [Bool.and_eq_true] at ok
    have hp : (base2 o).Perm (srt n) := List.isPerm_iff.mp ok.1
    refine ⟨_, (pss_cons (ps_set (i := 1) sc_law_unfolded.nd rfl (Or.inr rfl) (pe_op op_cat (pe_lc (own := [("_law_item", 2)]) (g := gName 2) (tt := tYes) (by rfl) sc_law_unfolded.nd (pi_list (pe_revL (pv 0))) (blkOk_by (own := [("_law_item", 2)]) (N := N_law_unfolded) (sc := defScope s_law_unfolded) (by decide +kernel)) (fun _ _ _ _ _ => pg_name (i := 2) sc_law_unfolded.nd rfl (Or.inl rfl)) (fun _ _ _ _ _ => pts_nil) (fun _ _ _ _ _ => (pe_op op_sub pe_int (pv 2)))) (pe_callTy call_list_of (by rfl) T.b_list (by decide +kernel) (pa_cons (pv 0) pa_nil))))
      (pss_one (ps_ret (pe_lc (own := [("_law_item", 2)]) (g := gName 2) (tt := tYes) (by rfl) sc_law_unfolded.nd (pi_list (pv 1)) (blkOk_by (own := [("_law_item", 2)]) (N := N_law_unfolded) (sc := defScope s_law_unfolded) (by decide +kernel)) (fun _ _ _ _ _ => pg_name (i := 2) sc_law_unfolded.nd rfl (Or.inl rfl)) (fun _ _ _ _ _ => pts_nil) (fun _ _ _ _ _ => (pe_indexK (K := K) rfl (pe_callB (cr_sortedK (K := K) rfl) (by rfl) T.b_sorted (by decide +kernel) (pa_cons (pv 1) pa_nil)) (pa_cons (pv 2) pa_nil))))))), ?_⟩
    have e0 : o.reverse.map (fun x => V.int (0 - x)) ++ o.map V.int = (base2 o).map V.int := by
      unfold base2
      rw [List.map_append, List.map_map]
      congr 1
      refine List.map_congr_left fun x _ => ?_
      show V.int (0 - x) = V.int (-x)
      rw [Int.zero_sub]
    refine q_asgL (el_cat (el_mapN (fun x => V.int (0 - x)) (by rw [List.map_reverse]; exact el_rev (ev_var rfl) (sq_of ho)) (by rw [List.length_reverse]; omega) (fun _ => rfl) fun i H3 e3 hi => ev_op ev_c (ev_var rfl) rv_I0) (el_list (ev_var rfl) (sq_of ho)) (by rw [List.length_map, List.length_reverse]; omega) (by rw [List.length_map]; omega)) fun l H3 hl0 e3 h3 => ?_
    rw [e0] at h3
    have bl : (base2 o).length = 2 * o.length := by
      unfold base2
      rw [List.length_append, List.length_map, List.length_reverse]
      omega
    have e4 : (unf n o).map V.int = (base2 o).map fun x => V.int (x + (n : Int) - b2z (decide (0 < x))) := by
      unfold unf base2
      rw [List.map_map]
      rfl
    rw [e4] at k
    refine s_retL (el_map (fun x => V.int (x + (n : Int) - b2z (decide (0 < x)))) (ev_var rfl) (sq_of h3) (by omega) (fun _ => rfl) fun i H5 e5 hi => ?_) fun u H5 hu e5 h5 => k.go e3 hu e5 h5
    have oki := List.all_eq_true.mp ok.2 i hi
    rw [Bool.and_eq_true, Bool.and_eq_true] at oki
    obtain ⟨⟨i0, i1⟩, i2⟩ := oki
    have i0 := of_decide_eq_true i0
    refine ev_is (ev_index (j := plc n i) (el_sorted (s := srt n) (ev_var rfl) (sq_of (e5 _ _ h3)) hp (srt_up n n3) (by omega)) (ev_var rfl) (eq_of_beq i1) fun m hm => ?_) ?_
    · have := List.all_eq_true.mp i2 m (List.mem_range.mpr hm)
      exact bne_iff_ne.mp this
    · congr 1
      exact Int.toNat_of_nonneg i0
end
end SL

set_option Elab.async false
set_option linter.all false
set_option maxRecDepth 100000
set_option maxHeartbeats 1000000
namespace SL
open PySem PySem.Spec PyProof.Rows L2 Evl
abbrev s_law_plain_right : Stmt := tp 73
abbrev N_law_plain_right : List Str := ["_law_generator_here", "_law_size", "_law_plain", "_law_ring", "_law_told", "_law_one", "_law_other"]
theorem sc_law_plain_right : FnScope N_law_plain_right ["_law_generator_here"] (defScope s_law_plain_right) := ⟨rfl, rfl, rfl, by decide +kernel, rfl, by decide +kernel, by decide +kernel⟩
section
variable {P : Program} {w : World} {K : PySem.W.Frag} {mg : Str → Option Value} {base : Heap} {C D : Addr}
section
variable {σ : L2.St} {H : Hp} {ta tb te : TE} {t u : TT} {tr ts : TA} {x : V} {xs : List V} {Q : VK} {QA : List V → Hp → Prop} {D' : Ends} {tu tz : TS}
theorem et_or0 (h1 : EvT t σ H false) (h2 : EvT u σ H false) : EvT (tOr t u) σ H false := et_or (a := false) (b := false) h1 fun _ => h2
theorem et_neLL {o p : List Int} (ha : EvL ta σ H (o.map V.int)) (hb : EvL tb σ H (p.map V.int)) (h : o = p) : EvT (tTest (tOp (rNeD K) ta tb)) σ H false := et_test (ev_is (ev_neLL ha hb) (by subst h; simp))
theorem et_neI {i j : Int} (ha : Ev ta σ H (.int i)) (hb : Ev tb σ H (.int j)) (h : i = j) : EvT (tTest (tOp rNe ta tb)) σ H false := et_test (ev_is (ev_op ha hb (rv_ne rfl)) (by subst h; simp))
theorem et_neB {i j : Bool} (ha : Ev ta σ H (.bl i)) (hb : Ev tb σ H (.bl j)) (h : i = j) : EvT (tTest (tOp rNe ta tb)) σ H false := et_test (ev_is (ev_op ha hb (rv_ne rfl)) (by subst h; simp))
theorem q_not (h : EvT t σ H false) (k : ∀ H1, Ex H H1 → tz D' σ H1) : tSeq (tIfS t tu tNext) tz D' σ H := q_when (b := false) h (fun z => by cases z) fun _ => k
theorem gc_K {k : Kn} {n : Nat} (h : EvK C ta σ H k n) (kk : ∀ p H1, H p = none → Ex H H1 → KindAt C H1 p k n → tr σ H1 fun ys H2 => QA (.ref p :: ys) H2) : tCons ta tr σ H QA := h H (Ex.refl H) _ kk
theorem gc_U (h : EvU ta σ H xs) (k : ∀ p H1, H p = none → Ex H H1 → H1 p = some (.tup xs) → tr σ H1 fun ys H2 => QA (.ref p :: ys) H2) : tCons ta tr σ H QA := h H (Ex.refl H) _ k
/-- c + a draw -/
theorem q_draw {i ig c b : Nat} {g : Addr} {m : Int} (h : σ[ig]? = some (some (.ref g))) (hg : GenAt H g m) (hb : 1 ≤ b ∧ b ≤ 1000) (hm : m ≤ 90000) (k : ∀ (r : Nat) H2, r < b → GenAt H2 g (m + 1) → Exl g H H2 → tz D' (σ.set i (some (.int ((c + r : Nat) : Int)))) H2) :
    tSeq (tAsg (tOp (rI0 fun i j => .int (i + j)) (tC (.int (c : Int))) (tCall (sp_law_random K C) [] E0 (tCons (tVar ig) (tCons (tC (.int (b : Int))) tNil)))) (gName i)) tz D' σ H :=
  go_op ev_c fun H0 e0 => go_call (vs := [.ref g, .int (b : Int)]) (ea_cons (ev_var h) (ea_cons ev_c ea_nil)) fun H1 e1 => ⟨g, b, m, rfl, hb.1, hb.2, hg.mono (e0.trans e1), hm, fun r H2 hr hg2 x2 => ⟨_, _, rfl, rfl, by
    have := k r H2 hr hg2 ((Exl.of (e0.trans e1)).trans x2)
    rw [Int.natCast_add] at this
    exact this⟩⟩
theorem q_g3 {i j l : Nat} (h : ts σ H fun vs H1 => ∃ u v w, vs = [u, v, w] ∧ tz D' (((σ.set i (some u)).set j (some v)).set l (some w)) H1) : tSeq (tPar3 i j l ts) tz D' σ H := h
theorem q_g2 {i j : Nat} (h : ts σ H fun vs H1 => ∃ u v, vs = [u, v] ∧ tz D' ((σ.set i (some u)).set j (some v)) H1) : tSeq (tPar i j ts) tz D' σ H := h
/-- .. calls on orders -/
theorem ev_crs {i1 i2 : Nat} {p a : Addr} {kn : Kn} {n : Nat} {o : List Int} (h1 : σ[i1]? = some (some (.ref p))) (h2 : σ[i2]? = some (some (.ref a))) (ho : OrdAt C H p a kn n o) :
    Ev (tCall (sp_crossings K C) [] E0 (tCons (tVar i1) (tCons (tVar i2) tNil))) σ H (.int (crs kn.m o 0)) := ev_call (ea_cons (ev_var h1) (ea_cons (ev_var h2) ea_nil)) (PV.sp fun H1 e => ⟨p, a, kn, n, o, rfl, ho.mono e, rfl⟩)
theorem el_fls {i1 i2 : Nat} {p a : Addr} {kn : Kn} {n : Nat} {o : List Int} (h1 : σ[i1]? = some (some (.ref p))) (h2 : σ[i2]? = some (some (.ref a))) (ho : OrdAt C H p a kn n o) :
    EvL (tCall (sp_falls K C) [] E0 (tCons (tVar i1) (tCons (tVar i2) tNil))) σ H ((nI (fls kn.m n o)).map V.int) := el_call (ea_cons (ev_var h1) (ea_cons (ev_var h2) ea_nil)) (PL.sp fun H1 e => ⟨p, a, kn, n, o, rfl, ho.mono e, rfl⟩)
theorem el_opp {i1 i2 : Nat} {p a : Addr} {kn : Kn} {n : Nat} {o : List Int} (h1 : σ[i1]? = some (some (.ref p))) (h2 : σ[i2]? = some (some (.ref a))) (ho : OrdAt C H p a kn n o) :
    EvL (tCall (sp_opposite K C) [] E0 (tCons (tVar i1) (tCons (tVar i2) tNil))) σ H ((opp kn.m n o).map V.int) := el_call (ea_cons (ev_var h1) (ea_cons (ev_var h2) ea_nil)) (PL.sp fun H1 e => ⟨p, a, kn, n, o, rfl, ho.mono e, rfl⟩)
theorem el_prd {i1 i2 i3 : Nat} {p a b : Addr} {kn : Kn} {n : Nat} {o q : List Int} (h1 : σ[i1]? = some (some (.ref p))) (h2 : σ[i2]? = some (some (.ref a))) (h3 : σ[i3]? = some (some (.ref b))) (ho : OrdAt C H p a kn n o) (hq : OrdAt C H p b kn n q) :
    EvL (tCall (sp_product K C) [] E0 (tCons (tVar i1) (tCons (tVar i2) (tCons (tVar i3) tNil)))) σ H ((prd kn.m o q).map V.int) := el_call (ea_cons (ev_var h1) (ea_cons (ev_var h2) (ea_cons (ev_var h3) ea_nil))) (PL.sp fun H1 e => ⟨p, a, b, kn, n, o, q, rfl, ho.mono e, hq.mono e, rfl⟩)
theorem el_grd {i1 i2 i3 : Nat} {p a b : Addr} {kn : Kn} {n : Nat} {o q : List Int} (h1 : σ[i1]? = some (some (.ref p))) (h2 : σ[i2]? = some (some (.ref a))) (h3 : σ[i3]? = some (some (.ref b))) (ho : OrdAt C H p a kn n o) (hq : OrdAt C H p b kn n q) :
    EvL (tCall (sp_greedy K C) [] E0 (tCons (tVar i1) (tCons (tVar i2) (tCons (tVar i3) tNil)))) σ H ((grd kn.m n o q).map V.int) := el_call (ea_cons (ev_var h1) (ea_cons (ev_var h2) (ea_cons (ev_var h3) ea_nil))) (PL.sp fun H1 e => ⟨p, a, b, kn, n, o, q, rfl, ho.mono e, hq.mono e, rfl⟩)
theorem ev_bel {i1 i2 i3 : Nat} {p a b : Addr} {kn : Kn} {n : Nat} {o q : List Int} (h1 : σ[i1]? = some (some (.ref p))) (h2 : σ[i2]? = some (some (.ref a))) (h3 : σ[i3]? = some (some (.ref b))) (ho : OrdAt C H p a kn n o) (hq : OrdAt C H p b kn n q) :
    Ev (tCall (sp_is_beneath K C) [] E0 (tCons (tVar i1) (tCons (tVar i2) (tCons (tVar i3) tNil)))) σ H (.bl (bel kn.m n o q)) := ev_call (ea_cons (ev_var h1) (ea_cons (ev_var h2) (ea_cons (ev_var h3) ea_nil))) (PV.sp fun H1 e => ⟨p, a, b, kn, n, o, q, rfl, ho.mono e, hq.mono e, rfl⟩)
theorem el_pow {i1 i2 c : Nat} {p a : Addr} {kn : Kn} {n : Nat} {o : List Int} (h1 : σ[i1]? = some (some (.ref p))) (h2 : σ[i2]? = some (some (.ref a))) (hc : c ≤ 1000) (ho : OrdAt C H p a kn n o) :
    EvL (tCall (sp_power K C) [] E0 (tCons (tVar i1) (tCons (tVar i2) (tCons (tC (.int (c : Int))) tNil)))) σ H ((pow kn.m n o c).map V.int) := el_call (ea_cons (ev_var h1) (ea_cons (ev_var h2) (ea_cons ev_c ea_nil))) (PL.sp fun H1 e => ⟨p, a, kn, n, c, o, rfl, ho.mono e, hc, rfl⟩)
/-- two orders that the law draws -/
theorem q_orders {i1 i2 j1 j2 mo : Nat} {g t : Addr} {k : Kn} {n : Nat} {m : Int} (h1 : σ[i1]? = some (some (.ref g))) (h2 : σ[i2]? = some (some (.ref t))) (hg : GenAt H g m) (hm : m ≤ 70000) (ht : ToldU H t k n) (hs : 1 ≤ stN k n) (hmo : mo ≤ 100)
    (kk : ∀ a b o q H2, Exl g H H2 → a ≠ g → b ≠ g → H a = none → H b = none → Ls H2 a o → Ls H2 b q → Vd k.m n o → Vd k.m n q → tz D' ((σ.set j1 (some (.ref a))).set j2 (some (.ref b))) H2) :
    tSeq (tPar j1 j2 (tCons (tCall (sp_law_order K C) [] E0 (tCons (tVar i1) (tCons (tVar i2) (tCons (tC (.int (mo : Int))) tNil)))) (tCons (tCall (sp_law_order K C) [] E0 (tCons (tVar i1) (tCons (tVar i2) (tCons (tC (.int (mo : Int))) tNil)))) tNil))) tz D' σ H :=
  q_g2 (gc_call (vs := [.ref g, .ref t, .int (mo : Int)]) (ea_cons (ev_var h1) (ea_cons (ev_var h2) (ea_cons ev_c ea_nil))) fun H1 e1 => ⟨g, t, k, n, mo, m, rfl, hg.mono e1, by omega, ht.mono e1, hs, hmo, fun a H2 o ha x2 hg2 la va => by
    have x02 : Exl g H H2 := (Exl.of e1).trans x2
    have hag := (hg.mono e1).new ha
    refine gc_call (vs := [.ref g, .ref t, .int (mo : Int)]) (ea_cons (ev_var h1) (ea_cons (ev_var h2) (ea_cons ev_c ea_nil))) fun H3 e3 => ⟨g, t, k, n, mo, m + 1 + mo, rfl, hg2.mono e3, by omega, (ht.exl hg x02).mono e3, hs, hmo, fun b H4 q hb x4 hg4 lb vb => ?_⟩
    have hbg := (hg2.mono e3).new hb
    have x04 : Exl g H H4 := (x02.trans (Exl.of e3)).trans x4
    exact ⟨_, _, rfl, kk a b o q H4 x04 hag hbg (fresh_back e1 ha) (((x02.trans (Exl.of e3))).back hbg hb) (x4 _ _ hag (e3 _ _ la)) lb va vb⟩⟩)
end
def sp_law_plain_right (K : PySem.W.Frag) (C : Addr) : Sp := fun vs H Q _ => ∃ g, vs = [.ref g] ∧ GenAt H g 10000 ∧ ∀ H2, Exl g H H2 → Q (.bl true) H2
theorem ok_law_plain_right {f : Addr} {fd : FuncData} (F : FnP K "_law_plain_right" "_law_plain_right" s_law_plain_right f fd) (T : Tx K w mg C D) (c_law_random : Cal P w K mg base 2 "_law_random" (sp_law_random K C)) (k_Kind : Mak P w K mg base 4 "Kind" C (sp_K_init K C)) (c_law_order : Cal P w K mg base 4 "_law_order" (sp_law_order K C)) (c_crossings : Cal P w K mg base 7 "crossings" (sp_crossings K C)) (c_falls : Cal P w K mg base 7 "falls" (sp_falls K C)) (c_opposite : Cal P w K mg base 7 "opposite" (sp_opposite K C)) (c_product : Cal P w K mg base 7 "product" (sp_product K C)) (c_greedy : Cal P w K mg base 8 "greedy" (sp_greedy K C)) (c_is_beneath : Cal P w K mg base 7 "is_beneath" (sp_is_beneath K C)) (c_power : Cal P w K mg base 7 "power" (sp_power K C)) : FnOk P w K mg base CX0 9 f fd ["_law_generator_here"] (sp_law_plain_right K C) := by
  refine fn0 F sc_law_plain_right (fun vs H Q E h => ?_) (fun cdv A outer s H vs Q E hr h => ?_)
  · obtain ⟨g, rfl, _⟩ := h
    rfl
  · obtain ⟨g, rfl, hg, k⟩ := h
    refine ⟨_, (pss_cons (ps_set (i := 1) sc_law_plain_right.nd rfl (Or.inl rfl) (pe_op op_add pe_int (pc c_law_random hr (pa_cons (pv 0) (pa_cons pe_int pa_nil)))))
      (pss_cons (ps_par3 (i := 2) (j := 3) (l := 4) rfl sc_law_plain_right.nd rfl rfl rfl (by decide) (by decide) (by decide) rfl rfl rfl (pa_cons (pmk k_Kind hr (pa_cons pe_str (pa_cons (pv 1) pa_nil))) (pa_cons (pmk k_Kind hr (pa_cons pe_str (pa_cons (pv 1) pa_nil))) (pa_cons (pe_tup (pa_cons pe_str (pa_cons (pv 1) pa_nil))) pa_nil))) (by rfl))
      (pss_cons (ps_par (i := 5) (j := 6) rfl sc_law_plain_right.nd rfl rfl (by decide) rfl rfl (pa_cons (pc c_law_order hr (pa_cons (pv 0) (pa_cons (pv 4) (pa_cons pe_int pa_nil)))) (pa_cons (pc c_law_order hr (pa_cons (pv 0) (pa_cons (pv 4) (pa_cons pe_int pa_nil)))) pa_nil)) (by rfl))
      (pss_cons (ps_if (PW.pt (pw_or (pt_cmpR op_ne (pc c_crossings hr (pa_cons (pv 2) (pa_cons (pv 5) pa_nil))) (pc c_crossings hr (pa_cons (pv 3) (pa_cons (pv 5) pa_nil))) (nomark _)) (pw_or (pt_cmpR (op_neD hr.units) (pc c_falls hr (pa_cons (pv 2) (pa_cons (pv 5) pa_nil))) (pc c_falls hr (pa_cons (pv 3) (pa_cons (pv 5) pa_nil))) (nomark _)) (pw_or1 (pt_cmpR (op_neD hr.units) (pc c_opposite hr (pa_cons (pv 2) (pa_cons (pv 5) pa_nil))) (pc c_opposite hr (pa_cons (pv 3) (pa_cons (pv 5) pa_nil))) (nomark _)))))) (pss_one (ps_ret pe_bl)) pss_nil)
      (pss_cons (ps_if (PW.pt (pw_or (pt_cmpR (op_neD hr.units) (pc c_product hr (pa_cons (pv 2) (pa_cons (pv 5) (pa_cons (pv 6) pa_nil)))) (pc c_product hr (pa_cons (pv 3) (pa_cons (pv 5) (pa_cons (pv 6) pa_nil)))) (nomark _)) (pw_or1 (pt_cmpR (op_neD hr.units) (pc c_greedy hr (pa_cons (pv 2) (pa_cons (pv 5) (pa_cons (pv 6) pa_nil)))) (pc c_greedy hr (pa_cons (pv 3) (pa_cons (pv 5) (pa_cons (pv 6) pa_nil)))) (nomark _))))) (pss_one (ps_ret pe_bl)) pss_nil)
      (pss_cons (ps_if (pt_cmpR op_ne (pc c_is_beneath hr (pa_cons (pv 2) (pa_cons (pv 5) (pa_cons (pv 6) pa_nil)))) (pc c_is_beneath hr (pa_cons (pv 3) (pa_cons (pv 5) (pa_cons (pv 6) pa_nil)))) (nomark _)) (pss_one (ps_ret pe_bl)) pss_nil)
      (pss_one (ps_ret (pe_cmpR (op_eqD hr.units) (pc c_power hr (pa_cons (pv 2) (pa_cons (pv 5) (pa_cons pe_int pa_nil)))) (pc c_power hr (pa_cons (pv 3) (pa_cons (pv 5) (pa_cons pe_int pa_nil)))) (nomark _)))))))))), ?_⟩
    refine q_draw (c := 2) (b := 4) rfl hg ⟨by decide, by decide⟩ (by decide) fun r H1 hr1 hg1 x1 => ?_
    refine q_g3 ?_
    refine gc_K (ek_make (k := .pl) (n := 2 + r) (ea_cons ev_c (ea_cons (ev_var rfl) ea_nil)) ⟨by show 1 ≤ 2 + r; omega, by show 2 + r ≤ 7; omega⟩) fun p1 H2 _ e2 k1 => ?_
    refine gc_K (ek_make (k := .ri) (n := 2 + r) (ea_cons ev_c (ea_cons (ev_var rfl) ea_nil)) ⟨by show 2 ≤ 2 + r; omega, by show 2 + r ≤ 5; omega⟩) fun p2 H3 _ e3 k2 => ?_
    refine gc_U (eu_tup (vs := [.str "plain", .int ((2 + r : Nat) : Int)]) (ea_cons ev_c (ea_cons (ev_var rfl) ea_nil)) (by show 2 ≤ 100000; decide)) fun t H4 _ e4 ht => ⟨_, _, _, rfl, ?_⟩
    have e24 := (e2.trans e3).trans e4
    have hg4 := hg1.mono e24
    refine q_orders (mo := 12) (k := .pl) (n := 2 + r) rfl rfl hg4 (by decide) ⟨ht, by decide, by omega, by omega⟩ (by show 1 ≤ (2 + r) - 1; omega) (by decide) fun a b o q H5 x5 ha hb _ _ la lb va vb => ?_
    have xx : Exl g H H5 := (x1.trans (Exl.of e24)).trans x5
    have kg : ∀ {p : Addr} {kn : Kn} {n : Nat}, KindAt C H4 p kn n → KindAt C H5 p kn n := fun {p kn n} ⟨dx, h⟩ => ⟨dx, x5 _ _ (fun e => by
      obtain ⟨_, _, _, h1, _⟩ := hg4
      rw [e, h1] at h
      cases h) h⟩
    have k1 := kg (k1.mono (e3.trans e4))
    have k2 := kg (k2.mono e4)
    have o1 : OrdAt C H5 p1 a .pl (2 + r) o := ⟨k1, la, by omega, by show 2 + r ≤ 6; omega, va⟩
    have o2 : OrdAt C H5 p1 b .pl (2 + r) q := ⟨k1, lb, by omega, by show 2 + r ≤ 6; omega, vb⟩
    have o3 : OrdAt C H5 p2 a .ri (2 + r) o := ⟨k2, la, by omega, by show 2 + r ≤ 6; omega, va⟩
    have o4 : OrdAt C H5 p2 b .ri (2 + r) q := ⟨k2, lb, by omega, by show 2 + r ≤ 6; omega, vb⟩
    refine q_not (et_or0 (et_neI (ev_crs rfl rfl o1) (ev_crs rfl rfl o3) rfl) (et_or0 (et_neLL (el_fls rfl rfl o1) (el_fls rfl rfl o3) rfl) (et_neLL (el_opp rfl rfl o1) (el_opp rfl rfl o3) rfl))) fun H6 e6 => ?_
    refine q_not (et_or0 (et_neLL (el_prd rfl rfl rfl (o1.mono e6) (o2.mono e6)) (el_prd rfl rfl rfl (o3.mono e6) (o4.mono e6)) rfl) (et_neLL (el_grd rfl rfl rfl (o1.mono e6) (o2.mono e6)) (el_grd rfl rfl rfl (o3.mono e6) (o4.mono e6)) rfl)) fun H7 e7 => ?_
    have e67 := e6.trans e7
    refine q_not (et_neB (ev_bel rfl rfl rfl (o1.mono e67) (o2.mono e67)) (ev_bel rfl rfl rfl (o3.mono e67) (o4.mono e67)) rfl) fun H8 e8 => ?_
    have e68 := e67.trans e8
    refine s_ret (ev_is (ev_eqLL (el_pow (c := 4) rfl rfl (by decide) (o1.mono e68)) (el_pow (c := 4) rfl rfl (by decide) (o3.mono e68))) (congrArg V.bl (decide_eq_true rfl))) fun H9 e9 => ?_
    exact k H9 (xx.trans (Exl.of (e68.trans e9)))
end
end SL

set_option Elab.async false
set_option linter.all false
set_option maxRecDepth 100000
set_option maxHeartbeats 1000000
namespace SL
open PySem PySem.Spec PyProof.Rows L2 Evl
/-! ### a call by keywords alone -/
/-- the keywords come in the other order than the two parameters -/
def turn2 {α : Type} : List α → List α
  | [a, b] => [b, a]
  | l => l
structure CalK (P : Program) (w : World) (K : PySem.W.Frag) (mg : Str → Option Value) (base : Heap) (k : Nat) (x : Str) (ks : List Str) (sp : Sp) : Prop where
  ex : ∃ (f : Addr) (fd : FuncData) (ps : List Str), FnOk P w K mg base CX0 k f fd ps sp ∧ mg x = some (.ref f) ∧ PySem.W.keepIn K (.ref f) = true ∧ KBinds K fd ps ks (fun us ws => us ++ turn2 ws) (fun vs zs => vs ++ turn2 zs)
section
variable {X : Cx} {k j : Nat} {x : Str} {ks : List Str} {sp : Sp} {p pos : Pos} {kws : List Keyword} {tk : TA}
def tCallW (sp : Sp) (tk : TA) : TE := fun σ H Q => tk σ H fun zs H1 => sp (turn2 zs) H1 Q E0
theorem pck (c : CalK X.prog X.w X.K X.mg X.base k x ks sp) (hr : Room j X.A) (hkw : PK X kws tk) (hk : k ≤ j := by decide) (hg : Gl X x := by rfl)
    (hall : (backToKw pos (keywordEach kws X.env)).all (·.1.isSome) = true := by rfl) (hks : (backToKw pos (keywordEach kws X.env)).filterMap (·.1) = ks := by rfl) (hdb : (x == ("__debug__" : Str)) = false := by decide)
    (hpl : ((backTo pos (starEach [] X.env)).any (·.1) || (backToKw pos (keywordEach kws X.env)).any (·.1.isNone)) = false := by rfl) :
    PE X (.Call (.Name x p) [] kws pos) (tCallW sp tk) := by
  obtain ⟨f, fd, ps, F, hm, kp, b⟩ := c.ex
  refine ⟨fun pins s σ H Q I h => ?_⟩
  refine wpAny_Call_Name_kw (ld_glob I hg hm ?_ hdb)
  refine PySem.W.callWith_KW0 (h₀ := X.base) I.ok.mod.kin kp hall (thn (hkw.run pos pins s σ H _ I h) fun ws s2 ⟨zs, H2, I2, rz, q2⟩ => ⟨I2.kIn, ?_⟩) hpl
  rw [hks]
  exact run_fnk (us := []) (vs := []) F (hr.mono hk) b pass0 I2 .nil rz q2
end
/-! ### xs[:] = ys -/
section
variable {prog : Program} {w : World} {A : Around} {E : Value → Shared → Prop} {s : Shared}
theorem bounds_all (n : Nat) : sliceBounds none none none n = ((0 : Int), (n : Int), 1) := by
  unfold sliceBounds
  simp
theorem splice_all (items new : Array Value) : items.extract 0 (0 : Int).toNat ++ new ++ items.extract (max (0 : Int) (items.size : Int)).toNat items.size = new := by
  have h : (max (0 : Int) (items.size : Int)).toNat = items.size := by omega
  rw [h]
  apply Array.toList_inj.mp
  simp
/-- the call of list's own setter -/
theorem set_enter {l : Addr} {items : Array Value} {key v : Value} {Q : Unit → Shared → Prop} (T : s.TypeIs (.ref l) "list")
    (h : wpAny (model prog w) A.in1 (Builtin.«list.__setitem__» ⟨[.ref l, key, v], []⟩) (fun fin s' => ∃ u, fin = .done (.ret u) ∧ Q () s') E s) : wpAny (model prog w) A (setItem (.ref l) key v) Q E s :=
  wpAny_holding (wpAny_bind (wpAny_sequenceKey T (by decide) (wpAny_bind (wpAny_callSpecial?_slot T slot_list_setitem
    (wpAny_call_entry slot_list_setitem T entry_list_setitem (wpAny_mono h (fun _ _ ⟨u, e, q⟩ => ⟨u, e, wpAny_pure q⟩) fun _ _ z => z) (args_list_setitem _ _ _))))))
/-- a slice is no index -/
theorem slice_sub {M : Model} {v : Value} {Q : Option Int → Shared → Prop} (T : s.TypeIs v "slice") (h : Q none s) : wpAny M A (Builtin.List.listSubscript? v) Q E s :=
  wpAny_bind (wpAny_specialOf T slice_no_index (wpAny_pure h))
/-- the parts of [:] -/
theorem slice_parts {M : Model} {sl : Addr} {vl vu : Value} {Q : Value × Value × Value → Shared → Prop} (hs : s.heap.IsSliceOf sl vl vu .none) (pl : IsPart vl none) (pu : IsPart vu none) (h : Q (.none, .none, .none) s) : wpAny M A (Builtin.List.listSliceParts (.ref sl)) Q E s := by
  obtain ⟨o, ho, _, hd⟩ := hs
  rw [listSliceParts_eq]
  exact wpAny_bind (wpAny_field ho hd rfl (wpAny_bind (wpAny_listPart .none (wpAny_bind (wpAny_field ho hd rfl (wpAny_bind (wpAny_listPart pl (wpAny_bind (wpAny_field ho hd rfl (wpAny_bind (wpAny_listPart pu (wpAny_pure h))))))))))))
/-- a list's items, as a list and as anything that is walked -/
theorem list_items {M : Model} {a : Addr} {xs : Array Value} {n : Nat} {Q : Array Value → Shared → Prop} (e : s.heap.get? a = some { cls := .type "list", data := .seq xs n }) (h : Q xs s) : wpAny M A (Builtin.List.listItems (.ref a)) Q E s :=
  wpAny_bind (wpAny_seqItems e rfl (wpAny_pure h))
theorem list_all {M : Model} {a : Addr} {xs : Array Value} {n : Nat} {msg : String} {Q : Array Value → Shared → Prop} (e : s.heap.get? a = some { cls := .type "list", data := .seq xs n }) (h : Q xs s) : wpAny M A (Builtin.List.listAllItems (.ref a) msg) Q E s :=
  wpAny_bind (wpAny_typeOf (PySem.IsL.isList e).typeIs (by
    rw [if_pos (by decide)]
    exact list_items e h))
theorem set_all {l b sl : Addr} {items new : Array Value} {n n2 : Nat} {vl vu : Value} {Q : Unit → Shared → Prop}
    (el : s.heap.get? l = some { cls := .type "list", data := .seq items n }) (eb : s.heap.get? b = some { cls := .type "list", data := .seq new n2 }) (apart : l ≠ b) (hs : s.heap.IsSliceOf sl vl vu .none) (pl : IsPart vl none) (pu : IsPart vu none) (few : items.size + new.size ≤ sizeLine)
    (h : Q () { s with heap := s.heap.update l (Obj.mapSeq fun xs => xs.extract 0 (0 : Int).toNat ++ new ++ xs.extract (max (0 : Int) (items.size : Int)).toNat xs.size) }) : wpAny (model prog w) A (setItem (.ref l) (.ref sl) (.ref b)) Q E s := by
  have big : (items.extract 0 (0 : Int).toNat ++ new ++ items.extract (max (0 : Int) (items.size : Int)).toNat items.size).size ≤ sizeLine + 1 := by
    rw [splice_all]
    omega
  have T : s.TypeIs (.ref sl) "slice" := let ⟨o, h1, h2, _⟩ := hs; ⟨o, h1, h2⟩
  have two : Builtin.List.listSameRef (.ref l) (.ref b) = false := beq_eq_false_iff_ne.mpr apart
  have ind : sliceIndices .none .none .none items.size = pure ((0 : Int), (items.size : Int), (1 : Int)) := (sliceIndices_raw none none none items.size (by simp)).trans (congrArg pure (bounds_all _))
  have short : Builtin.List.listTooLong (items.size + new.size) = false := by
    cases z : Builtin.List.listTooLong (items.size + new.size) with
    | false => rfl
    | true => exact absurd z (by rw [notLongL few]; exact Bool.false_ne_true)
  refine set_enter (items := items) (PySem.IsL.isList el).typeIs (show wpAny _ _ (_ >>= _) _ _ s from ?_)
  refine wpAny_bind (m := Builtin.List.listSubscript? (.ref sl)) (slice_sub T ?_)
  refine wpAny_bind (m := typeOf (.ref sl)) (wpAny_typeOf T ?_)
  rw [if_neg (by decide)]
  refine wpAny_bind (slice_parts hs pl pu ?_)
  show wpAny _ _ (if Builtin.List.listSameRef (.ref l) (.ref b) = true then _ else _) _ _ s
  rw [if_neg (by rw [two]; exact Bool.false_ne_true)]
  refine wpAny_bind (list_all eb ?_)
  refine wpAny_bind (list_items el ?_)
  refine wpAny_bind (wpAny_of_eq ind ?_)
  show wpAny _ _ (if ((1 : Int) == 1) = true then _ else _) _ _ s
  rw [if_pos (by decide)]
  refine wpAny_bind (wpAny_rule ?_)
  show wpAny _ _ (if Builtin.List.listTooLong (items.size + new.size) = true then _ else _) _ _ s
  rw [if_neg (by rw [short]; exact Bool.false_ne_true)]
  refine wpAny_bind (m := updateSeq l _) (wpAny_updateSeq (hz := Nat.le_trans (Nat.le_add_right _ _) few) (_hz' := big) el rfl ?_)
  exact wpAny_bind (wpAny_letGo (wpAny_bind (wpAny_pure (wpAny_pure ⟨_, rfl, h⟩))))
end
section
variable {X : Cx}
def gAll (to : TE) : TG := fun v σ H Q => to σ H fun o H1 => ∃ l b xs ys, o = .ref l ∧ v = .ref b ∧ H1 l = some (.lst xs) ∧ H1 b = some (.lst ys) ∧ l ≠ b ∧ xs.length + ys.length ≤ sizeLine ∧ Q σ (L2.upd H1 l (.lst ys))
theorem pg_all {o : Expr} {to : TE} {p pos : Pos} (ho : PE X o to) : PG X (.Subscript o (.Slice none none none p) pos) (gAll to) := by
  refine ⟨fun pins s σ H v u Q I r h => ?_⟩
  have ha : assign (.Subscript o (.Slice none none none p) pos) X.env u = (do
      let ov ← holding [u] (eval o X.env)
      let iv ← holding [u, ov] (eval (.Slice none none none p) X.env)
      standAt pos
      holding [u, ov, iv] (setItem ov iv u)
      release [iv, u, ov] []) := rfl
  rw [ha]
  refine wpAny_bind (wpAny_holding (thn (ho.run pins s σ H _ I h) fun ov s1 ⟨x, H1, I1, r1, q1⟩ => ?_))
  obtain ⟨l, b, xs, ys, rfl, rfl, hl, hb, hne, hz, q⟩ := q1
  cases r1
  cases r
  refine wpAny_bind (wpAny_holding (wpAny_Slice ?_))
  refine thn (po_none.run pins s1 σ H1 (fun o H2 => o = none ∧ H2 = H1) I1 ⟨rfl, rfl⟩) fun vl s2 ⟨l2, H2, I2, pl, el, e2⟩ => ?_
  subst el e2
  refine thn (po_none.run pins s2 σ H2 (fun o H3 => o = none ∧ H3 = H2) I2 ⟨rfl, rfl⟩) fun vu s3 ⟨u3, H3, I3, pu, eu, e3⟩ => ?_
  subst eu e3
  rw [evalPart_none]
  refine wpAny_pure ?_
  have I4 : Inv X pins σ H3 { s3 with heap := s3.heap.push { cls := .type "slice", data := .fields #[vl, vu, .none] } } := I3.kept (t' := s3.toks) fun b ob q => Heap.get?_push_of_some _ q
  obtain ⟨z, its, n, rl, zl, el⟩ := I4.lstM hl
  obtain ⟨z2, its2, n2, rb, zb, eb⟩ := I4.lstM hb
  refine wpAny_bind (wpAny_standAt (wpAny_bind (wpAny_holding ?_)))
  refine set_all el eb hne (Heap.IsSliceOf.new _ vl vu .none) pl pu (by rw [List.size_toArray, List.size_toArray]; omega) (wpAny_release ⟨σ, _, I4.lset (its' := its2) (t' := s3.toks) hl el (splice_all _ _) rb (by omega), q⟩)
end
end SL

set_option Elab.async false
set_option linter.all false
set_option maxRecDepth 100000
set_option maxHeartbeats 1000000
namespace SL
open PySem PySem.Spec PyProof.Rows L2 Evl
abbrev s_law_mirror_right : Stmt := tp 71
abbrev N_law_mirror_right : List Str := ["_law_generator_here", "_law_size", "_law_small", "_law_great", "_law_told", "_law_one", "_law_other", "_law_here", "_law_there", "_law_item", "_law_step", "_law_pair", "_law_place", "_law_handed", "_law_asked"]
theorem sc_law_mirror_right : FnScope N_law_mirror_right ["_law_generator_here"] (defScope s_law_mirror_right) := ⟨rfl, rfl, rfl, by decide +kernel, rfl, by decide +kernel, by decide +kernel⟩
/-! ### data of lists -/
theorem dpAll_bls (K : PySem.W.Frag) (H : Hp) : ∀ o : List Bool, DpAll K H (o.map V.bl) (o.map PyData.bool)
  | [] => .nil
  | i :: o => .cons (.bl i) (dpAll_bls K H o)
def pyB (o : List Bool) : PyData := .list (o.map PyData.bool)
theorem canLayAll_bls : ∀ o : List Bool, PyData.canLayAll0 (o.map PyData.bool) = true
  | [] => rfl
  | i :: o => by
    show (PyData.canLay0 (PyData.bool i) && PyData.canLayAll0 (o.map PyData.bool)) = true
    rw [canLayAll_bls o]
    rfl
theorem depthAll_bls : ∀ o : List Bool, PyData.depthAll (o.map PyData.bool) = 0
  | [] => rfl
  | i :: o => by
    show max (PyData.depth (PyData.bool i)) (PyData.depthAll (o.map PyData.bool)) = 0
    rw [depthAll_bls o]
    rfl
theorem shaped_pyB (o : List Bool) : SeqAt.shaped (pyB o) = true := by
  show (PyData.canLayAll0 (o.map PyData.bool) && decide (PyData.depthAll (o.map PyData.bool) + 1 ≤ 64)) = true
  rw [canLayAll_bls, depthAll_bls]
  rfl
theorem eqv_pyB : ∀ o : List Bool, PyData.eqv (pyB o) (pyB o) = true
  | [] => rfl
  | i :: o => by
    show (PyData.eqv (.bool i) (.bool i) && PyData.eqv (pyB o) (pyB o)) = true
    rw [eqv_pyB o]
    cases i <;> rfl
/-- lists of lists -/
def pyLL (l : List (List Int)) : PyData := .list (l.map pyL)
theorem canLayAll_LL : ∀ l : List (List Int), PyData.canLayAll0 (l.map pyL) = true
  | [] => rfl
  | i :: l => by
    show (PyData.canLayAll0 (i.map PyData.int) && PyData.canLayAll0 (l.map pyL)) = true
    rw [canLayAll_LL l, canLayAll_ints]
    rfl
theorem depthAll_LL : ∀ l : List (List Int), PyData.depthAll (l.map pyL) ≤ 1
  | [] => Nat.zero_le _
  | i :: l => by
    show max (PyData.depthAll (i.map PyData.int) + 1) (PyData.depthAll (l.map pyL)) ≤ 1
    have := depthAll_LL l
    rw [depthAll_ints]
    omega
theorem shaped_pyLL (l : List (List Int)) : SeqAt.shaped (pyLL l) = true := by
  show (PyData.canLayAll0 (l.map pyL) && decide (PyData.depthAll (l.map pyL) + 1 ≤ 64)) = true
  have := depthAll_LL l
  rw [canLayAll_LL, decide_eq_true (by omega)]
  rfl
theorem eqv_pyLL : ∀ l : List (List Int), PyData.eqv (pyLL l) (pyLL l) = true
  | [] => rfl
  | i :: l => by
    show (PyData.eqv (pyL i) (pyL i) && PyData.eqv (pyLL l) (pyLL l)) = true
    rw [eqv_pyLL l, eqv_pyL, decide_eq_true rfl]
    rfl
section
variable {P : Program} {w : World} {K : PySem.W.Frag} {mg : Str → Option Value} {base : Heap} {C D : Addr}
section
variable {σ : L2.St} {H : Hp} {ta tb te : TE} {t u : TT} {tr ts : TA} {x : V} {xs : List V} {Q : VK} {QA : List V → Hp → Prop} {D' : Ends} {tu tz : TS}
theorem rv_neB {a b : Addr} {o : List Bool} (h1 : H a = some (.lst (o.map V.bl))) (h2 : H b = some (.lst (o.map V.bl))) : RV (rNeD K) (.ref a) (.ref b) H (.bl false) := fun H1 e Q q =>
  ⟨pyB o, pyB o, .lst (SqL.of (e _ _ h1)) (dpAll_bls K H1 o), .lst (SqL.of (e _ _ h2)) (dpAll_bls K H1 o), shaped_pyB o, shaped_pyB o, by rw [eqv_pyB]; exact q H1 (Ex.refl H1)⟩
theorem et_neLv {o : List Int} {b : Addr} (ha : EvL ta σ H (o.map V.int)) (hb : ∀ H1, Ex H H1 → Ev tb σ H1 (.ref b)) (h : Ls H b o) : EvT (tTest (tOp (rNeD K) ta tb)) σ H false :=
  et_test (ev_is (ev_opL1 ha hb fun _ _ h1 e => rv_neL h1 (e _ _ h)) (by simp))
theorem el_unf {i1 i2 : Nat} {a : Addr} {n : Nat} {o : List Int} (h1 : σ[i1]? = some (some (.ref a))) (h2 : σ[i2]? = some (some (.int (n : Int)))) (ho : Ls H a o) (n1 : 1 ≤ n) (n3 : n ≤ 3) (v : Vd true n o) :
    EvL (tCall (sp_unfolded K C) [] E0 (tCons (tVar i1) (tCons (tVar i2) tNil))) σ H ((unf n o).map V.int) := el_call (ea_cons (ev_var h1) (ea_cons (ev_var h2) ea_nil)) (PL.sp fun H1 e => ⟨a, n, o, rfl, e _ _ ho, n1, n3, v, rfl⟩)
theorem el_unfW {i1 i2 : Nat} {a : Addr} {n : Nat} {o : List Int} (h1 : σ[i1]? = some (some (.ref a))) (h2 : σ[i2]? = some (some (.int (n : Int)))) (ho : Ls H a o) (n1 : 1 ≤ n) (n3 : n ≤ 3) (v : Vd true n o) :
    EvL (tCallW (sp_unfolded K C) (tCons (tVar i2) (tCons (tVar i1) tNil))) σ H ((unf n o).map V.int) := fun H1 e Q q =>
  (ea_cons (ev_var h2) (ea_cons (ev_var h1) ea_nil)) H1 e _ fun H2 e2 => ⟨_, ⟨a, n, o, rfl, (e.trans e2) _ _ ho, n1, n3, v, rfl⟩, fun p H3 hp e3 h3 => q p H3 (fresh_back e2 hp) (e2.trans e3) h3⟩
theorem el_unfN {i2 : Nat} {n : Nat} {o : List Int} (h1 : EvL ta σ H (o.map V.int)) (h2 : σ[i2]? = some (some (.int (n : Int)))) (n1 : 1 ≤ n) (n3 : n ≤ 3) (v : Vd true n o) :
    EvL (tCall (sp_unfolded K C) [] E0 (tCons ta (tCons (tVar i2) tNil))) σ H ((unf n o).map V.int) := fun H1 e Q q => h1 H1 e _ fun a H2 ha e2 h2' =>
  ⟨_, h2, ⟨_, ⟨a, n, o, rfl, h2', n1, n3, v, rfl⟩, fun p H3 hp e3 h3 => q p H3 (fresh_back e2 hp) (e2.trans e3) h3⟩⟩
theorem el_fld {i1 i2 : Nat} {a : Addr} {n : Nat} {o : List Int} (h1 : σ[i1]? = some (some (.ref a))) (h2 : σ[i2]? = some (some (.int (n : Int)))) (ho : Ls H a o) (n1 : 1 ≤ n) (n3 : n ≤ 3) (v : Vd false (2 * n) o) (s : sym n o = true) :
    EvL (tCall (sp_folded K C) [] E0 (tCons (tVar i1) (tCons (tVar i2) tNil))) σ H ((fld n o).map V.int) := el_call (ea_cons (ev_var h1) (ea_cons (ev_var h2) ea_nil)) (fun H1 e Q q E => ⟨a, n, o, rfl, e _ _ ho, n1, n3, v, .inl ⟨s, q⟩⟩)
theorem el_fldW {i1 i2 : Nat} {a : Addr} {n : Nat} {o : List Int} (h1 : σ[i1]? = some (some (.ref a))) (h2 : σ[i2]? = some (some (.int (n : Int)))) (ho : Ls H a o) (n1 : 1 ≤ n) (n3 : n ≤ 3) (v : Vd false (2 * n) o) (s : sym n o = true) :
    EvL (tCallW (sp_folded K C) (tCons (tVar i2) (tCons (tVar i1) tNil))) σ H ((fld n o).map V.int) := fun H1 e Q q =>
  (ea_cons (ev_var h2) (ea_cons (ev_var h1) ea_nil)) H1 e _ fun H2 e2 => ⟨a, n, o, rfl, (e.trans e2) _ _ ho, n1, n3, v, .inl ⟨s, fun p H3 hp e3 h3 => q p H3 (fresh_back e2 hp) (e2.trans e3) h3⟩⟩
theorem el_lu {i1 : Nat} {a : Addr} {n : Nat} {o : List Int} (h1 : σ[i1]? = some (some (.ref a))) (ho : Ls H a o) (n1 : 1 ≤ n) (n3 : n ≤ 3) (v : Vd true n o) :
    EvL (tCall (sp_law_unfolded K C) [] E0 (tCons (tVar i1) tNil)) σ H ((unf n o).map V.int) := el_call (ea_cons (ev_var h1) ea_nil) (PL.sp fun H1 e => ⟨a, n, o, rfl, e _ _ ho, n1, n3, v, rfl⟩)
theorem inV_nI (l : List Nat) (j : Nat) : inV (.int (j : Int)) ((nI l).map V.int) = decide (j ∈ l) := by
  induction l with
  | nil => rfl
  | cons i l ih =>
    show (eqV (.int (i : Int)) (.int (j : Int)) || inV (.int (j : Int)) ((nI l).map V.int)) = decide (j ∈ i :: l)
    rw [ih]
    show (((i : Int) == (j : Int)) || decide (j ∈ l)) = decide (j ∈ i :: l)
    by_cases h : i = j
    · subst h
      simp
    · have h1 : ((i : Int) == (j : Int)) = false := beq_eq_false_iff_ne.mpr (by omega)
      rw [h1, Bool.false_or]
      have h2 : (j ∈ i :: l) ↔ j ∈ l := by
        rw [List.mem_cons]
        exact ⟨fun z => z.elim (fun z => absurd z.symm h) id, .inr⟩
      exact decide_eq_decide.mpr h2.symm
theorem flat_nI (l : List Nat) : ((nI l).map V.int).all flatV = true := List.all_eq_true.mpr fun y hy => by
  obtain ⟨z, _, rfl⟩ := List.mem_map.mp hy
  rfl
theorem dec_fls {m : Bool} {n j : Nat} {o : List Int} (h : j < nst m n) : decide (j ∈ fls m n o) = cr m o j := by
  unfold fls
  cases hc : cr m o j with
  | true => exact decide_eq_true (List.mem_filter.mpr ⟨List.mem_range.mpr h, hc⟩)
  | false => exact decide_eq_false (fun z => by
    have z2 := (List.mem_filter.mp z).2
    rw [z2] at hc
    cases hc)
/-- j in falls(kind, order) -/
theorem ev_inF {i1 i2 : Nat} {p a : Addr} {kn : Kn} {n j : Nat} {o : List Int} (hx : Ev ta σ H (.int (j : Int))) (h1 : σ[i1]? = some (some (.ref p))) (h2 : σ[i2]? = some (some (.ref a))) (ho : OrdAt C H p a kn n o) (hj : j < nst kn.m n) :
    Ev (tOp (rIn K false) ta (tCall (sp_falls K C) [] E0 (tCons (tVar i1) (tCons (tVar i2) tNil)))) σ H (.bl (cr kn.m o j)) :=
  ev_is (ev_opL hx (el_fls h1 h2 ho) fun _ _ hp _ => rv_isL (sq_of hp) rfl (flat_nI _)) (congrArg V.bl ((inV_nI _ _).trans (dec_fls hj)))
/-- x.append(7), x new -/
theorem q_appN {c : V} (h : EvL ta σ H xs) (hz : xs.length < 100000) (k : ∀ H1, Ex H H1 → tz D' σ H1) : tSeq (tDrop (tBM K "list" rAppend ta (tCons (tC c) tNil))) tz D' σ H := h H (Ex.refl H) _ fun p H1 hp e1 h1 =>
  ⟨Or.inl ⟨rfl, _, sq_of h1⟩, p, xs, c, rfl, rfl, h1, sz_lt hz, k _ (Ex.mut e1 hp)⟩
theorem q_dropL (h : EvL te σ H xs) (k : ∀ H1, Ex H H1 → tz D' σ H1) : tSeq (tDrop te) tz D' σ H := h H (Ex.refl H) _ fun _ H1 _ e1 _ => k H1 e1
theorem gc_LL (h : EvL te σ H xs) (k : ∀ p l H1, H p = none → H l = none → Ex H H1 → H1 p = some (.lst xs) → H1 l = some (.lst [.ref p]) → tr σ H1 fun ys H2 => QA (.ref l :: ys) H2) : tCons (tLst (tCons te tNil)) tr σ H QA :=
  h H (Ex.refl H) _ fun p H1 hp e1 h1 => ⟨by show 1 ≤ sizeLine; decide, fun l hl => k p l _ hp (fresh_back e1 hl) (e1.trans (Ex.new hl)) ((Ex.new hl) _ _ h1) upd_same⟩
theorem q_t {g : TG} (h : ts σ H fun xs H1 => xs.length ≤ sizeLine ∧ ∀ p, H1 p = none → g (.ref p) σ (L2.upd H1 p (.tup xs)) (tz D')) : tSeq (tAsg (tTup ts) g) tz D' σ H := h
/-- what stands once all is drawn -/
structure Mr (C : Addr) (H : Hp) (p1 p2 a b c d : Addr) (n : Nat) (o q : List Int) : Prop where
  k1 : KindAt C H p1 .mi n
  k2 : KindAt C H p2 .pl (2 * n)
  la : Ls H a o
  lb : Ls H b q
  lc : Ls H c (unf n o)
  ld : Ls H d (unf n q)
  n1 : 1 ≤ n
  n3 : n ≤ 3
  va : Vd true n o
  vb : Vd true n q
section
variable {p1 p2 a b c d : Addr} {n : Nat} {o q : List Int} {H' : Hp}
theorem Mr.mono (m : Mr C H p1 p2 a b c d n o q) (e : Ex H H') : Mr C H' p1 p2 a b c d n o q := ⟨m.k1.mono e, m.k2.mono e, e _ _ m.la, e _ _ m.lb, e _ _ m.lc, e _ _ m.ld, m.n1, m.n3, m.va, m.vb⟩
theorem Mr.o1 (m : Mr C H p1 p2 a b c d n o q) : OrdAt C H p1 a .mi n o := ⟨m.k1, m.la, m.n1, m.n3, m.va⟩
theorem Mr.o2 (m : Mr C H p1 p2 a b c d n o q) : OrdAt C H p1 b .mi n q := ⟨m.k1, m.lb, m.n1, m.n3, m.vb⟩
theorem Mr.o3 (m : Mr C H p1 p2 a b c d n o q) : OrdAt C H p2 c .pl (2 * n) (unf n o) := ⟨m.k2, m.lc, by have := m.n1; omega, by have := m.n3; show 2 * n ≤ 6; omega, (one_all m.n1 m.n3 m.va).1⟩
theorem Mr.o4 (m : Mr C H p1 p2 a b c d n o q) : OrdAt C H p2 d .pl (2 * n) (unf n q) := ⟨m.k2, m.ld, by have := m.n1; omega, by have := m.n3; show 2 * n ≤ 6; omega, (one_all m.n1 m.n3 m.vb).1⟩
end
end
section
variable {σ : L2.St} {H : Hp} {D' : Ends} {tz : TS} {te ta : TE}
theorem q_all {i j : Nat} {h b : Addr} {xs ys : List V} (h1 : σ[i]? = some (some (.ref b))) (h2 : σ[j]? = some (some (.ref h))) (hh : H h = some (.lst xs)) (hb : H b = some (.lst ys)) (hne : h ≠ b) (hz : xs.length + ys.length ≤ sizeLine) (k : tz D' σ (L2.upd H h (.lst ys))) :
    tSeq (tAsg (tVar i) (gAll (tVar j))) tz D' σ H := ⟨_, h1, _, h2, h, b, xs, ys, rfl, rfl, hh, hb, hne, hz, k⟩
/-- asked = asked + [unfolded(handed, size), folded(here, size)] -/
theorem q_asked {i1 i2 i3 i4 : Nat} {p1 p2 a b c d u l h : Addr} {n : Nat} {o q : List Int} (h1 : σ[i1]? = some (some (.ref l))) (h2 : σ[i2]? = some (some (.ref h))) (h3 : σ[i3]? = some (some (.int (n : Int)))) (h4 : σ[i4]? = some (some (.ref c))) (M : Mr C H p1 p2 a b c d n o q) (hu : Ls H u (unf n o)) (hl : H l = some (.lst [.ref u])) (hh : Ls H h q)
    (A1 : Vd false (2 * n) (unf n o) ∧ sym n (unf n o) = true ∧ fld n (unf n o) = o ∧ crs false (unf n o) 0 = 2 * crs true o 0 - (negs o : Int) ∧ Vd true n (opp true n o) ∧ unf n (opp true n o) = opp false (2 * n) (unf n o) ∧ ∀ j, j < n → cr true o j = cr false (unf n o) (n - 1 - j) ∧ cr true o j = cr false (unf n o) (n - 1 + j))
    (k : ∀ l2 u2 u3 H2, Ex H H2 → H2 l2 = some (.lst [.ref u, .ref u2, .ref u3]) → Ls H2 u2 (unf n q) → Ls H2 u3 o → tz D' (σ.set i1 (some (.ref l2))) H2) :
    tSeq (tAsg (tOp rCat (tVar i1) (tLst (tCons (tCall (sp_unfolded K C) [] E0 (tCons (tVar i2) (tCons (tVar i3) tNil))) (tCons (tCall (sp_folded K C) [] E0 (tCons (tVar i4) (tCons (tVar i3) tNil))) tNil)))) (gName i1)) tz D' σ H := by
  refine go_op (ev_var h1) fun H1 e1 => ?_
  show tCons _ _ σ H1 _
  refine gc_L (el_unf h2 h3 (e1 _ _ hh) M.n1 M.n3 M.vb) fun u2 H2 _ e2 hu2 => ?_
  refine gc_L (el_fld h4 h3 ((e1.trans e2) _ _ M.lc) M.n1 M.n3 A1.1 A1.2.1) fun u3 H3 _ e3 hu3 => ?_
  refine ⟨by show 2 ≤ sizeLine; decide, fun r hr => ?_⟩
  have e4 := Ex.new (o := .lst [V.ref u2, V.ref u3]) hr
  have h4' : (L2.upd H3 r (.lst [V.ref u2, V.ref u3])) r = some (.lst [V.ref u2, V.ref u3]) := upd_same
  generalize (L2.upd H3 r (.lst [V.ref u2, V.ref u3])) = H4 at e4 h4' ⊢
  have e14 := ((e1.trans e2).trans e3).trans e4
  refine ⟨l, r, [.ref u], [.ref u2, .ref u3], rfl, rfl, e14 _ _ hl, h4', by show 1 + 2 ≤ sizeLine; decide, fun l2 hl2 => ?_⟩
  have e5 := Ex.new (o := .lst ([V.ref u] ++ [V.ref u2, V.ref u3])) hl2
  refine k l2 u2 u3 _ (e14.trans e5) upd_same (((e3.trans e4).trans e5) _ _ hu2) ?_
  have := (e4.trans e5) _ _ hu3
  rw [A1.2.2.1] at this
  exact this
theorem ev_opL2 {r : R2} {xs : List V} {x z : V} {tb : TE} (ha : Ev ta σ H x) (hb : EvL tb σ H xs) (hr : ∀ p H1, H1 p = some (.lst xs) → Ex H H1 → RV r x (.ref p) H1 z) : Ev (tOp r ta tb) σ H z := ev_opL ha hb hr
theorem ev_ask {i5 i6 : Nat} {p1 p2 a b c d u l u2 u3 : Addr} {n : Nat} {o q : List Int} (ha : Ev ta σ H (.ref l)) (hl : H l = some (.lst [.ref u, .ref u2, .ref u3])) (hu : Ls H u (unf n o)) (hu2 : Ls H u2 (unf n q)) (hu3 : Ls H u3 o) (h5 : σ[i5]? = some (some (.ref a))) (h6 : σ[i6]? = some (some (.ref b))) (M : Mr C H p1 p2 a b c d n o q) :
    Ev (tOp (rEqD K) ta (tLst (tCons (tCall (sp_law_unfolded K C) [] E0 (tCons (tVar i5) tNil)) (tCons (tCall (sp_law_unfolded K C) [] E0 (tCons (tVar i6) tNil)) (tCons (tVar i5) tNil))))) σ H (.bl true) := fun H1 e1 Q k => by
  refine ha H1 e1 _ fun H2 e2 => ?_
  have e12 := e1.trans e2
  refine gc_L (el_lu h5 (e12 _ _ M.la) M.n1 M.n3 M.va) fun v1 H3 _ e3 hv1 => ?_
  refine gc_L (el_lu h6 ((e12.trans e3) _ _ M.lb) M.n1 M.n3 M.vb) fun v2 H4 _ e4 hv2 => ?_
  refine gc_V (ev_var h5) fun H5 e5 => ?_
  refine ⟨by show 3 ≤ sizeLine; decide, fun r hr => ?_⟩
  have e6 := Ex.new (o := .lst [V.ref v1, V.ref v2, V.ref a]) hr
  have h6' : (L2.upd H5 r (.lst [V.ref v1, V.ref v2, V.ref a])) r = some (.lst [V.ref v1, V.ref v2, V.ref a]) := upd_same
  generalize (L2.upd H5 r (.lst [V.ref v1, V.ref v2, V.ref a])) = H6 at e6 h6' ⊢
  have e26 := ((e3.trans e4).trans e5).trans e6
  have e06 := e12.trans e26
  have d1 : Dp K H6 (.ref l) (pyLL [unf n o, unf n q, o]) := .lst (sq_of (e06 _ _ hl)) (.cons (dp_ls (e06 _ _ hu)) (.cons (dp_ls (e06 _ _ hu2)) (.cons (dp_ls (e06 _ _ hu3)) .nil)))
  have d2 : Dp K H6 (.ref r) (pyLL [unf n o, unf n q, o]) := .lst (sq_of h6') (.cons (dp_ls (((e4.trans e5).trans e6) _ _ hv1)) (.cons (dp_ls ((e5.trans e6) _ _ hv2)) (.cons (dp_ls (e06 _ _ M.la)) .nil)))
  refine ⟨_, _, d1, d2, shaped_pyLL _, shaped_pyLL _, ?_⟩
  rw [eqv_pyLL]
  exact k H6 (e2.trans e26)
end
def sp_law_mirror_right (K : PySem.W.Frag) (C : Addr) : Sp := sp_law_plain_right K C
theorem few64n {n : Nat} (h : n ≤ 1000) : -(2 ^ 64) < (n : Int) ∧ (n : Int) < 2 ^ 64 := by omega
theorem ok_law_mirror_right {f : Addr} {fd : FuncData} (F : FnP K "_law_mirror_right" "_law_mirror_right" s_law_mirror_right f fd) (T : Tx K w mg C D) (c_law_random : Cal P w K mg base 2 "_law_random" (sp_law_random K C)) (k_Kind : Mak P w K mg base 4 "Kind" C (sp_K_init K C)) (c_law_order : Cal P w K mg base 4 "_law_order" (sp_law_order K C)) (c_law_unfolded : Cal P w K mg base 1 "_law_unfolded" (sp_law_unfolded K C)) (c_unfolded : Cal P w K mg base 6 "unfolded" (sp_unfolded K C)) (c_unfolded_k : CalK P w K mg base 6 "unfolded" ["size", "order"] (sp_unfolded K C)) (c_folded : Cal P w K mg base 6 "folded" (sp_folded K C)) (c_folded_k : CalK P w K mg base 6 "folded" ["size", "order"] (sp_folded K C)) (c_crossings : Cal P w K mg base 7 "crossings" (sp_crossings K C)) (c_greedy : Cal P w K mg base 8 "greedy" (sp_greedy K C)) (c_product : Cal P w K mg base 7 "product" (sp_product K C)) (c_opposite : Cal P w K mg base 7 "opposite" (sp_opposite K C)) (c_power : Cal P w K mg base 7 "power" (sp_power K C)) (c_is_beneath : Cal P w K mg base 7 "is_beneath" (sp_is_beneath K C)) (c_falls : Cal P w K mg base 7 "falls" (sp_falls K C)) : FnOk P w K mg base CX0 9 f fd ["_law_generator_here"] (sp_law_mirror_right K C) := by
  refine fn0 F sc_law_mirror_right (fun vs H Q E h => ?_) (fun cdv A outer s H vs Q E hr h => ?_)
  · obtain ⟨g, rfl, _⟩ := h
    rfl
  · obtain ⟨g, rfl, hg, k⟩ := h
    refine ⟨_, (pss_cons (ps_set (i := 1) sc_law_mirror_right.nd rfl (Or.inl rfl) (pe_op op_add pe_int (pc c_law_random hr (pa_cons (pv 0) (pa_cons pe_int pa_nil)))))
      (pss_cons (ps_asg (pe_tup (pa_cons (pmk k_Kind hr (pa_cons pe_str (pa_cons (pv 1) pa_nil))) (pa_cons (pmk k_Kind hr (pa_cons pe_str (pa_cons (pe_op op_mul pe_int (pv 1)) pa_nil))) (pa_cons (pe_tup (pa_cons pe_str (pa_cons (pv 1) pa_nil))) pa_nil)))) (pg_tup rfl (pgs_cons (pg_name (i := 2) sc_law_mirror_right.nd rfl (Or.inl rfl)) (pgs_cons (pg_name (i := 3) sc_law_mirror_right.nd rfl (Or.inr rfl)) (pgs_cons (pg_name (i := 4) sc_law_mirror_right.nd rfl (Or.inl rfl)) pgs_nil)))))
      (pss_cons (ps_par (i := 5) (j := 6) rfl sc_law_mirror_right.nd rfl rfl (by decide) rfl rfl (pa_cons (pc c_law_order hr (pa_cons (pv 0) (pa_cons (pv 4) (pa_cons pe_int pa_nil)))) (pa_cons (pc c_law_order hr (pa_cons (pv 0) (pa_cons (pv 4) (pa_cons pe_int pa_nil)))) pa_nil)) (by rfl))
      (pss_cons (ps_asg (pe_tup (pa_cons (pc c_law_unfolded hr (pa_cons (pv 5) pa_nil)) (pa_cons (pc c_law_unfolded hr (pa_cons (pv 6) pa_nil)) pa_nil))) (pg_tup rfl (pgs_cons (pg_name (i := 7) sc_law_mirror_right.nd rfl (Or.inr rfl)) (pgs_cons (pg_name (i := 8) sc_law_mirror_right.nd rfl (Or.inl rfl)) pgs_nil))))
      (pss_cons (ps_if (PW.pt (pw_or (pt_cmpR (op_neD hr.units) (pc c_unfolded hr (pa_cons (pv 5) (pa_cons (pv 1) pa_nil))) (pv 7) (nomark _)) (pw_or (pt_cmpR (op_neD hr.units) (pck c_unfolded_k hr (pk_cons (pv 1) (pk_cons (pv 6) pk_nil))) (pv 8) (nomark _)) (pw_or (pt_cmpR (op_neD hr.units) (pc c_folded hr (pa_cons (pv 7) (pa_cons (pv 1) pa_nil))) (pv 5) (nomark _)) (pw_or1 (pt_cmpR (op_neD hr.units) (pck c_folded_k hr (pk_cons (pv 1) (pk_cons (pv 8) pk_nil))) (pv 6) (nomark _))))))) (pss_one (ps_ret pe_bl)) pss_nil)
      (pss_cons (ps_if (pt_cmpR op_ne (pc c_crossings hr (pa_cons (pv 3) (pa_cons (pv 7) pa_nil))) (pe_op op_sub (pe_op op_mul pe_int (pc c_crossings hr (pa_cons (pv 2) (pa_cons (pv 5) pa_nil)))) (pe_callB call_len_seq (by rfl) T.b_len (by decide +kernel) (pa_cons (pe_lc (own := [("_law_item", 9)]) (g := gName 9) (by rfl) sc_law_mirror_right.nd (pi_list (pv 5)) (blkOk_by (own := [("_law_item", 9)]) (N := N_law_mirror_right) (sc := defScope s_law_mirror_right) (by decide +kernel)) (fun _ _ _ _ _ => pg_name (i := 9) sc_law_mirror_right.nd rfl (Or.inl rfl)) (fun _ _ _ _ _ => (pts_one (pt_cmpR op_lt (pv 9) pe_int (nomark _)))) (fun _ _ _ _ _ => (pv 9))) pa_nil))) (nomark _)) (pss_one (ps_ret pe_bl)) pss_nil)
      (pss_cons (ps_if (PW.pt (pw_or (pt_cmpR (op_neD hr.units) (pc c_unfolded hr (pa_cons (pc c_greedy hr (pa_cons (pv 2) (pa_cons (pv 5) (pa_cons (pv 6) pa_nil)))) (pa_cons (pv 1) pa_nil))) (pc c_greedy hr (pa_cons (pv 3) (pa_cons (pv 7) (pa_cons (pv 8) pa_nil)))) (nomark _)) (pw_or1 (pt_cmpR (op_neD hr.units) (pc c_unfolded hr (pa_cons (pc c_product hr (pa_cons (pv 2) (pa_cons (pv 5) (pa_cons (pv 6) pa_nil)))) (pa_cons (pv 1) pa_nil))) (pc c_product hr (pa_cons (pv 3) (pa_cons (pv 7) (pa_cons (pv 8) pa_nil)))) (nomark _))))) (pss_one (ps_ret pe_bl)) pss_nil)
      (pss_cons (ps_if (PW.pt (pw_or (pt_cmpR (op_neD hr.units) (pc c_unfolded hr (pa_cons (pc c_opposite hr (pa_cons (pv 2) (pa_cons (pv 5) pa_nil))) (pa_cons (pv 1) pa_nil))) (pc c_opposite hr (pa_cons (pv 3) (pa_cons (pv 7) pa_nil))) (nomark _)) (pw_or1 (pt_cmpR (op_neD hr.units) (pc c_unfolded hr (pa_cons (pc c_power hr (pa_cons (pv 2) (pa_cons (pv 5) (pa_cons pe_int pa_nil)))) (pa_cons (pv 1) pa_nil))) (pc c_power hr (pa_cons (pv 3) (pa_cons (pv 7) (pa_cons pe_int pa_nil)))) (nomark _))))) (pss_one (ps_ret pe_bl)) pss_nil)
      (pss_cons (ps_if (pt_cmpR op_ne (pc c_is_beneath hr (pa_cons (pv 2) (pa_cons (pv 5) (pa_cons (pv 6) pa_nil)))) (pc c_is_beneath hr (pa_cons (pv 3) (pa_cons (pv 7) (pa_cons (pv 8) pa_nil)))) (nomark _)) (pss_one (ps_ret pe_bl)) pss_nil)
      (pss_cons (ps_for PassesOwn.never rfl (pi_range1 rfl T.b_range (pa_cons (pv 1) pa_nil)) (pg_name (i := 10) sc_law_mirror_right.nd rfl (Or.inl rfl))
      (pss_cons (ps_set (i := 11) sc_law_mirror_right.nd rfl (Or.inl rfl) (pe_lst (pa_cons (pe_op op_sub (pe_op op_sub (pv 1) pe_int) (pv 10)) (pa_cons (pe_op op_add (pe_op op_sub (pv 1) pe_int) (pv 10)) pa_nil))))
      (pss_one (ps_if (pt_cmpR (op_neD hr.units) (pe_op op_rep (pe_lst (pa_cons (pe_cmpR op_in_seq (pv 10) (pc c_falls hr (pa_cons (pv 2) (pa_cons (pv 5) pa_nil))) (by rfl)) pa_nil)) pe_int) (pe_lc (own := [("_law_place", 12)]) (g := gName 12) (tt := tYes) (by rfl) sc_law_mirror_right.nd (pi_list (pv 11)) (blkOk_by (own := [("_law_place", 12)]) (N := N_law_mirror_right) (sc := defScope s_law_mirror_right) (by decide +kernel)) (fun _ _ _ _ _ => pg_name (i := 12) sc_law_mirror_right.nd rfl (Or.inl rfl)) (fun _ _ _ _ _ => pts_nil) (fun _ _ _ _ _ => (pe_cmpR (op_inK (K := K) rfl) (pv 12) (pc c_falls hr (pa_cons (pv 3) (pa_cons (pv 7) pa_nil))) (by rfl)))) (nomark _)) (pss_one (ps_ret pe_bl)) pss_nil))))
      (pss_cons (ps_expr (pe_bm PySem.F.plainAttrs_list PySem.F.slot_list_append PySem.F.type_list_append mt_append (pc c_unfolded hr (pa_cons (pv 5) (pa_cons (pv 1) pa_nil))) (pa_cons pe_int pa_nil)))
      (pss_cons (ps_expr (pe_bm PySem.F.plainAttrs_list PySem.F.slot_list_append PySem.F.type_list_append mt_append (pc c_folded hr (pa_cons (pv 7) (pa_cons (pv 1) pa_nil))) (pa_cons pe_int pa_nil)))
      (pss_cons (ps_par (i := 13) (j := 14) rfl sc_law_mirror_right.nd rfl rfl (by decide) rfl rfl (pa_cons (pe_callTy call_list_of (by rfl) T.b_list (by decide +kernel) (pa_cons (pv 5) pa_nil)) (pa_cons (pe_lst (pa_cons (pc c_unfolded hr (pa_cons (pv 5) (pa_cons (pv 1) pa_nil))) pa_nil)) pa_nil)) (by rfl))
      (pss_cons (ps_expr (pc c_unfolded hr (pa_cons (pv 13) (pa_cons (pv 1) pa_nil))))
      (pss_cons (ps_asg (pv 6) (pg_all (pv 13)))
      (pss_cons (ps_set (i := 14) sc_law_mirror_right.nd rfl (Or.inl rfl) (pe_op op_cat (pv 14) (pe_lst (pa_cons (pc c_unfolded hr (pa_cons (pv 13) (pa_cons (pv 1) pa_nil))) (pa_cons (pc c_folded hr (pa_cons (pv 7) (pa_cons (pv 1) pa_nil))) pa_nil)))))
      (pss_one (ps_ret (pe_and (pe_cmpR (op_eqD hr.units) (pv 14) (pe_lst (pa_cons (pc c_law_unfolded hr (pa_cons (pv 5) pa_nil)) (pa_cons (pc c_law_unfolded hr (pa_cons (pv 6) pa_nil)) (pa_cons (pv 5) pa_nil)))) (nomark _)) (pe_one (pe_cmpR (op_eqD hr.units) (pv 7) (pc c_law_unfolded hr (pa_cons (pv 5) pa_nil)) (nomark _)))))))))))))))))))))), ?_⟩
    refine q_draw (c := 1) (b := 3) rfl hg ⟨by decide, by decide⟩ (by decide) fun r H1 hr1 hg1 x1 => ?_
    obtain ⟨n, hn⟩ : ∃ n, n = 1 + r := ⟨_, rfl⟩
    rw [← hn]
    have n1 : 1 ≤ n := by omega
    have n3 : n ≤ 3 := by omega
    clear hn
    refine q_t ?_
    refine gc_K (ek_make (k := .mi) (n := n) (ea_cons ev_c (ea_cons (ev_var rfl) ea_nil)) ⟨by show 1 ≤ n; omega, by show n ≤ 5; omega⟩) fun p1 H2 _ e2 k1 => ?_
    refine gc_K (ek_make (k := .pl) (n := 2 * n) (ea_cons ev_c (ea_cons (ev_is (ev_op ev_c (ev_var rfl) (rv_I (.inl (few64 (by decide) (by decide))))) (congrArg V.int (Int.natCast_mul 2 n).symm)) ea_nil)) ⟨by show 1 ≤ 2 * n; omega, by show 2 * n ≤ 7; omega⟩) fun p2 H3 _ e3 k2 => ?_
    refine gc_U (eu_tup (vs := [.str "mirror", .int (n : Int)]) (ea_cons ev_c (ea_cons (ev_var rfl) ea_nil)) (by show 2 ≤ 100000; decide)) fun t H4 _ e4 ht => ?_
    refine ⟨by show 3 ≤ sizeLine; decide, fun pp hpp => ⟨pp, _, rfl, st_of upd_same, rfl, _, _, rfl, _, _, rfl, _, _, rfl, rfl, ?_⟩⟩
    have e5 := Ex.new (o := .tup [V.ref p1, V.ref p2, V.ref t]) hpp
    generalize (L2.upd H4 pp (.tup [V.ref p1, V.ref p2, V.ref t])) = H5 at e5 ⊢
    have e25 := ((e2.trans e3).trans e4).trans e5
    have hg5 := hg1.mono e25
    refine q_orders (mo := 9) (k := .mi) (n := n) rfl rfl hg5 (by decide) ⟨e5 _ _ ht, by decide, n1, by omega⟩ n1 (by decide) fun a b o q H6 x6 ha hb _ _ la lb va vb => ?_
    have xx : Exl g H H6 := (x1.trans (Exl.of e25)).trans x6
    have kg : ∀ {p : Addr} {kn : Kn} {n : Nat}, KindAt C H5 p kn n → KindAt C H6 p kn n := fun {p kn n} ⟨dx, h⟩ => ⟨dx, x6 _ _ (fun e => by
      obtain ⟨_, _, _, h1, _⟩ := hg5
      rw [e, h1] at h
      cases h) h⟩
    have k1 := kg (k1.mono ((e3.trans e4).trans e5))
    have k2 := kg (k2.mono (e4.trans e5))
    refine q_t ?_
    refine gc_L (el_lu rfl la n1 n3 va) fun c H7 _ e7 lc => ?_
    refine gc_L (el_lu rfl (e7 _ _ lb) n1 n3 vb) fun d H8 _ e8 ld => ?_
    refine ⟨by show 2 ≤ sizeLine; decide, fun pq hpq => ⟨pq, _, rfl, st_of upd_same, rfl, _, _, rfl, _, _, rfl, rfl, ?_⟩⟩
    have e9 := Ex.new (o := .tup [V.ref c, V.ref d]) hpq
    generalize (L2.upd H8 pq (.tup [V.ref c, V.ref d])) = H9 at e9 ⊢
    have e79 := (e7.trans e8).trans e9
    have M : Mr C H9 p1 p2 a b c d n o q := ⟨k1.mono e79, k2.mono e79, e79 _ _ la, e79 _ _ lb, (e8.trans e9) _ _ lc, e9 _ _ ld, n1, n3, va, vb⟩
    have x9 : Exl g H H9 := xx.trans (Exl.of e79)
    have A1 := one_all n1 n3 va
    have A2 := one_all n1 n3 vb
    have T2 := two_all n1 n3 va vb
    clear kg k1 k2 lc ld la lb e7 e8 e9 e79 xx x6 hg5 e25 e5 e2 e3 e4 ht x1 hg1
    replace k : ∀ H2, Ex H9 H2 → Q (.bl true) H2 := fun H2 e => k H2 (x9.trans (Exl.of e))
    refine q_not (et_or0 (et_neLv (el_unf rfl rfl M.la n1 n3 va) (fun _ _ => ev_var rfl) M.lc) (et_or0 (et_neLv (el_unfW rfl rfl M.lb n1 n3 vb) (fun _ _ => ev_var rfl) M.ld)
      (et_or0 (et_neLv (o := o) (by rw [← A1.2.2.1]; exact el_fld rfl rfl M.lc n1 n3 A1.1 A1.2.1) (fun _ _ => ev_var rfl) M.la) (et_neLv (o := q) (by rw [← A2.2.2.1]; exact el_fldW rfl rfl M.ld n1 n3 A2.1 A2.2.1) (fun _ _ => ev_var rfl) M.lb)))) fun H1 e1 => ?_
    replace M := M.mono e1
    replace k : ∀ H2, Ex H1 H2 → Q (.bl true) H2 := fun H2 e => k H2 (e1.trans e)
    clear e1
    have lo := va.len
    refine q_not (et_neI (ev_crs rfl rfl M.o3) (ev_op (ev_op ev_c (ev_crs rfl rfl M.o1) (rv_I (.inl (few64 (by decide) (by decide))))) (ev_lenN (el_filter (fun x => decide (x < 0)) (fun x => V.int x) (ev_var rfl) (sq_of M.la) (by omega) (fun _ => rfl) (fun i H3 e3 hi => et_test (ev_op (ev_var rfl) ev_c rv_I0)) (fun i H3 e3 hi => ev_var rfl))) rv_I0) ?_) fun H2 e2 => ?_
    · rw [List.length_map]
      exact A1.2.2.2.1
    replace M := M.mono e2
    replace k : ∀ H3, Ex H2 H3 → Q (.bl true) H3 := fun H3 e => k H3 (e2.trans e)
    clear e2
    have eg : grd false (2 * n) (unf n o) (unf n q) = unf n (grd true n o q) := T2.1.symm
    have ep : prd false (unf n o) (unf n q) = unf n (prd true o q) := T2.2.1.symm
    refine q_not (et_or0 (et_neLL (el_unfN (el_grd rfl rfl rfl M.o1 M.o2) rfl n1 n3 va.grd) (el_grd rfl rfl rfl M.o3 M.o4) T2.1) (et_neLL (el_unfN (el_prd rfl rfl rfl M.o1 M.o2) rfl n1 n3 T2.2.2.1) (el_prd rfl rfl rfl M.o3 M.o4) T2.2.1)) fun H3 e3 => ?_
    replace M := M.mono e3
    replace k : ∀ H4, Ex H3 H4 → Q (.bl true) H4 := fun H4 e => k H4 (e3.trans e)
    clear e3 eg ep
    refine q_not (et_or0 (et_neLL (el_unfN (el_opp rfl rfl M.o1) rfl n1 n3 A1.2.2.2.2.1) (el_opp rfl rfl M.o3) A1.2.2.2.2.2.1) (et_neLL (el_unfN (el_pow (c := 3) rfl rfl (by decide) M.o1) rfl n1 n3 (Vd.pow 3)) (el_pow (c := 3) rfl rfl (by decide) M.o3) (unf_pow n1 n3 va 3))) fun H4 e4 => ?_
    replace M := M.mono e4
    replace k : ∀ H5, Ex H4 H5 → Q (.bl true) H5 := fun H5 e => k H5 (e4.trans e)
    clear e4
    refine q_not (et_neB (ev_bel rfl rfl rfl M.o1 M.o2) (ev_bel rfl rfl rfl M.o3 M.o4) T2.2.2.2) fun H5 e5 => ?_
    replace M := M.mono e5
    replace k : ∀ H6, Ex H5 H6 → Q (.bl true) H6 := fun H6 e => k H6 (e5.trans e)
    clear e5 T2
    refine q_forR1 (n := (n : Int)) (ea_cons (ev_var rfl) ea_nil) ⟨by omega, by omega⟩
      (fun i σ' H' => ∃ (x10 x11 : Option V), σ' = [some (.ref g), some (.int n), some (.ref p1), some (.ref p2), some (.ref t), some (.ref a), some (.ref b), some (.ref c), some (.ref d), none, x10, x11, none, none, none] ∧ Ex H5 H')
      (fun H6 e6 => ⟨none, none, rfl, e6⟩) ?_ ?_
    · rintro i σ' H6 hi ⟨x10, x11, rfl, e6⟩
      have M6 := M.mono e6
      have hin : i < n := by omega
      have F := A1.2.2.2.2.2.2 i hin
      refine q_asgL (el_lst (vs := [.int ((n - 1 - i : Nat) : Int), .int ((n - 1 + i : Nat) : Int)]) (ea_cons (ev_is (ev_op (ev_op (ev_var rfl) ev_c rv_I0) (ev_var rfl) rv_I0) (by show V.int ((n : Int) - 1 - (i : Int)) = _; congr 1; omega)) (ea_cons (ev_is (ev_op (ev_op (ev_var rfl) ev_c rv_I0) (ev_var rfl) rv_I0) (by show V.int ((n : Int) - 1 + (i : Int)) = _; congr 1; omega)) ea_nil)) (by show 2 ≤ 100000; decide)) fun l H7 hl e7 h7 => ?_
      have M7 := M6.mono e7
      refine s_when (b := false) (et_test (ev_opLL (xs := [cr true o i, cr true o i].map V.bl) (ys := [cr true o i, cr true o i].map V.bl) ?_ ?_ fun _ _ _ h1 h2 _ => rv_neB h1 h2)) (fun z => by cases z) (fun _ H8 e8 => ⟨_, _, rfl, (e6.trans e7).trans e8⟩)
      · exact el_rep (k := 2) (el_lst (ea_cons (ev_inF (ev_var rfl) rfl rfl M7.o1 hin) ea_nil) (by show 1 ≤ 100000; decide)) (fun _ _ => ev_c) (by decide) (by show 1 ≤ 1000; decide)
      · have h7' : SqL K H7 l ([((n - 1 - i : Nat) : Int), ((n - 1 + i : Nat) : Int)].map V.int) := sq_of h7
        show EvL _ _ _ ([((n - 1 - i : Nat) : Int), ((n - 1 + i : Nat) : Int)].map fun _ => V.bl (cr true o i))
        refine el_map (fun _ => V.bl (cr true o i)) (ev_var rfl) h7' (by show 2 ≤ 40000; decide) (fun _ => rfl) fun x H8 e8 hx => ?_
        have M8 := M7.mono e8
        rcases List.mem_cons.mp hx with rfl | hx
        · rw [F.1]
          exact ev_inF (ev_var rfl) rfl rfl M8.o3 (by show n - 1 - i < 2 * n - 1; omega)
        · rw [List.mem_singleton.mp hx, F.2]
          exact ev_inF (ev_var rfl) rfl rfl M8.o3 (by show n - 1 + i < 2 * n - 1; omega)
    · rintro σ' H6 ⟨x10, x11, rfl, e6⟩
      replace M := M.mono e6
      replace k : ∀ H7, Ex H6 H7 → Q (.bl true) H7 := fun H7 e => k H7 (e6.trans e)
      clear e6
      refine q_appN (el_unf rfl rfl M.la n1 n3 va) (by rw [List.length_map]; unfold unf; rw [List.length_map, List.length_append, List.length_map, List.length_reverse]; omega) fun H7 e7 => ?_
      replace M := M.mono e7
      replace k : ∀ H8, Ex H7 H8 → Q (.bl true) H8 := fun H8 e => k H8 (e7.trans e)
      clear e7
      refine q_appN (el_fld rfl rfl M.lc n1 n3 A1.1 A1.2.1) (by rw [A1.2.2.1, List.length_map]; omega) fun H8 e8 => ?_
      replace M := M.mono e8
      replace k : ∀ H9, Ex H8 H9 → Q (.bl true) H9 := fun H9 e => k H9 (e8.trans e)
      clear e8
      refine q_g2 ?_
      refine gc_L (el_list (ev_var rfl) (sq_of M.la)) fun h H9 hh9 e9 h9 => ?_
      have M9 := M.mono e9
      refine gc_LL (el_unf rfl rfl M9.la n1 n3 va) fun u l H10 hu10 hl10 e10 h10 l10 => ⟨_, _, rfl, ?_⟩
      have M10 := M9.mono e10
      have h910 : Ls H10 h o := e10 _ _ h9
      refine q_dropL (el_unf rfl rfl h910 n1 n3 va) fun H11 e11 => ?_
      have hb11 := (M10.mono e11).lb
      have hne : h ≠ b := fun e => by
        have := M.lb
        rw [← e] at this
        rw [this] at hh9
        cases hh9
      have hul : ∀ {x : Addr} {y : HO}, H9 x = some y → x ≠ l := fun hx e => by
        rw [e, hl10] at hx
        cases hx
      refine q_all (σ := [some (.ref g), some (.int n), some (.ref p1), some (.ref p2), some (.ref t), some (.ref a), some (.ref b), some (.ref c), some (.ref d), none, x10, x11, none, some (.ref h), some (.ref l)]) rfl rfl (e11 _ _ h910) hb11 hne (by rw [List.length_map, List.length_map, va.len, vb.len]; exact sz_of (by omega)) ?_
      have x12 : Exl h H8 (L2.upd H11 h (.lst (q.map V.int))) := ((Exl.of ((e9.trans e10).trans e11)).trans Exl.upd)
      have e12 : Ex H8 (L2.upd H11 h (.lst (q.map V.int))) := Ex.mut ((e9.trans e10).trans e11) hh9
      have u12 : Ls (L2.upd H11 h (.lst (q.map V.int))) u (unf n o) := by
        show L2.upd H11 h (.lst (q.map V.int)) u = _
        rw [upd_ne (fun e => by rw [e, h9] at hu10; cases hu10)]
        exact e11 _ _ h10
      have l12 : (L2.upd H11 h (.lst (q.map V.int))) l = some (.lst [.ref u]) := by
        rw [upd_ne (Ne.symm (hul h9))]
        exact e11 _ _ l10
      have h12 : Ls (L2.upd H11 h (.lst (q.map V.int))) h q := upd_same
      generalize (L2.upd H11 h (.lst (q.map V.int))) = H12 at e12 u12 l12 h12 ⊢
      have M12 := M.mono e12
      refine q_asked rfl rfl rfl rfl M12 u12 l12 h12 A1 fun l2 u2 u3 H13 e13 hl2 hu2 hu3 => ?_
      have M13 := M12.mono e13
      refine s_ret (v := .bl true) ?_ fun H14 e14 => k H14 ((e12.trans e13).trans e14)
      refine ev_andV (a := true) (b := true) ?_ fun _ => ?_
      · refine ev_ask (o := o) (q := q) ?_ hl2 (e13 _ _ u12) hu2 hu3 rfl rfl M13
        exact ev_var rfl
      · exact ev_is (ev_opL2 (ev_var rfl) (el_lu rfl M13.la n1 n3 va) fun _ _ h1 e => rv_eqL (e _ _ M13.lc) h1) (congrArg V.bl (decide_eq_true rfl))
end
end SL

set_option Elab.async false
set_option linter.all false
set_option maxRecDepth 100000
set_option maxHeartbeats 1000000
namespace SL
open PySem PySem.Spec PyProof.Rows L2 Evl
abbrev s_law_all_folded : Stmt := tp 72
abbrev N_law_all_folded : List Str := ["_law_size", "_law_kind", "_law_found", "_law_many", "_law_order_here", "_law_told", "_law_at", "_law_due", "_law_number"]
theorem sc_law_all_folded : FnScope N_law_all_folded ["_law_size"] (defScope s_law_all_folded) := ⟨rfl, rfl, rfl, by decide +kernel, rfl, by decide +kernel, by decide +kernel⟩
def cnt (n c : Nat) : Nat := ((lvls (2 * n) c).filter (sym n)).length
def cntTo (n : Nat) : Nat → Nat
  | 0 => 0
  | c + 1 => cntTo n c + cnt n c
def dueOf : Nat → Int
  | 0 => 1
  | i + 1 => dueOf i * 2 * (1 + (i : Int))
theorem look_cnt : (cntTo 1 2 : Int) = dueOf 1 ∧ (cntTo 2 7 : Int) = dueOf 2 := by decide +kernel
theorem cnt_le (n c : Nat) : cnt n c ≤ (lvls (2 * n) c).length := List.length_filter_le _ _
section
variable {P : Program} {w : World} {K : PySem.W.Frag} {mg : Str → Option Value} {base : Heap} {C D : Addr}
section
variable {σ : L2.St} {H : Hp} {ta tb te : TE} {t u : TT} {tr ts : TA} {x : V} {xs : List V} {Q : VK} {QA : List V → Hp → Prop} {D' : Ends} {tu tz : TS}
theorem q_a {g : TG} (h : te σ H fun x H1 => g x σ H1 (tz D')) : tSeq (tAsg te g) tz D' σ H := h
/-- for order in orders_with(kind, c) -/
theorem s_forOrd {j : Nat} {p : Addr} {n c : Nat} (h : EvA ts σ H [.ref p, .int (c : Int)]) (hk : KindAt C H p .pl n) (ha : asked n c)
    (k : ∀ l H2 (ps : List (Addr × List Int)), H l = none → Ex H H2 → OrdsAt H2 l ps → (ps.map (·.2)).Perm (lvls n c) → ∃ Pv : Nat → L2.St → Hp → Prop, Pv 0 σ H2 ∧ (∀ i σ' H', i ≤ ps.length → Pv i σ' H' → H' l = some (.lst (ps.map fun q => V.ref q.1))) ∧
      (∀ i q σ' H', ps[i]? = some q → Pv i σ' H' → tu { D' with nx := Pv (i + 1), ct := Pv (i + 1), bk := D'.nx } (σ'.set j (some (.ref q.1))) H') ∧ ∀ σ' H', Pv ps.length σ' H' → D'.nx σ' H') :
    tFor (iList K (tCall (sp_orders_with K C) [] E0 ts)) (gName j) tu D' σ H := by
  refine h H (Ex.refl H) _ fun H1 e1 => ⟨p, n, c, rfl, hk.mono e1, ha, fun l H2 ps hl e2 hps pm => ?_⟩
  obtain ⟨Pv, h0, hl2, hs, hd⟩ := k l H2 ps (fresh_back e1 hl) (e1.trans e2) hps pm
  refine ⟨l, rfl, ⟨_, sq_of hps.at_⟩, for_list (xs := ps.map fun q => V.ref q.1) Pv h0 (fun i σ' H' hi p => sq_of (hl2 i σ' H' (by rw [List.length_map] at hi; exact hi) p)) (fun i x σ' H' hx p => ?_) (fun σ' H' p => hd σ' H' (by rw [List.length_map] at p; exact p))⟩
  rw [List.getElem?_map] at hx
  cases hq : ps[i]? with
  | none => rw [hq] at hx; cases hx
  | some q =>
    rw [hq] at hx
    cases Option.some.inj hx
    exact hs i q σ' H' hq p
theorem refs_ne {rs : List Addr} {o : List Int} (h : rs.map V.ref = o.map V.int) : o = [] := by
  cases o with
  | nil => rfl
  | cons x o =>
    cases rs with
    | nil => cases h
    | cons r rs => cases h
theorem take_filter {α : Type} {l : List α} {f : α → Bool} {i : Nat} {q : α} (h : l[i]? = some q) : ((l.take (i + 1)).filter f).length = ((l.take i).filter f).length + (if f q = true then 1 else 0) := by
  rw [List.take_succ, h, List.filter_append, List.length_append]
  congr 1
  show ([q].filter f).length = _
  by_cases hf : f q = true
  · rw [if_pos hf, List.filter_cons_of_pos hf]
    rfl
  · rw [if_neg hf, List.filter_cons_of_neg hf]
    rfl
end
def sp_law_all_folded (K : PySem.W.Frag) (C : Addr) : Sp := PV fun vs H v => ∃ n : Nat, vs = [.int n] ∧ (n = 1 ∨ n = 2) ∧ v = .bl true
theorem ok_law_all_folded {f : Addr} {fd : FuncData} (F : FnP K "_law_all_folded" "_law_all_folded" s_law_all_folded f fd) (T : Tx K w mg C D) (k_Kind : Mak P w K mg base 4 "Kind" C (sp_K_init K C)) (c_orders_with : Cal P w K mg base 5 "orders_with" (sp_orders_with K C)) (c_folded : Cal P w K mg base 6 "folded" (sp_folded K C)) (c_unfolded : Cal P w K mg base 6 "unfolded" (sp_unfolded K C)) : FnOk P w K mg base CX0 7 f fd ["_law_size"] (sp_law_all_folded K C) := by
  refine fn0 F sc_law_all_folded (fun vs H Q E h => ?_) (fun cdv A outer s H vs Q E hr h => ?_)
  · obtain ⟨v, ⟨n, rfl, _⟩, k⟩ := h
    rfl
  · obtain ⟨v, ⟨n, rfl, hn, rfl⟩, k⟩ := h
    refine ⟨_, (pss_cons (ps_par (i := 1) (j := 2) rfl sc_law_all_folded.nd rfl rfl (by decide) rfl rfl (pa_cons (pmk k_Kind hr (pa_cons pe_str (pa_cons (pe_op op_mul pe_int (pv 0)) pa_nil))) (pa_cons (pe_lst pa_nil) pa_nil)) (by rfl))
      (pss_cons (ps_for PassesOwn.never rfl (pi_range1 rfl T.b_range (pa_cons (pe_op op_add (pe_op op_mul (pv 0) (pe_op op_sub (pe_op op_mul pe_int (pv 0)) pe_int)) pe_int) pa_nil)) (pg_name (i := 3) sc_law_all_folded.nd rfl (Or.inl rfl))
      (pss_one (ps_for PassesOwn.never rfl (pi_list (pc c_orders_with hr (pa_cons (pv 1) (pa_cons (pv 3) pa_nil)))) (pg_name (i := 4) sc_law_all_folded.nd rfl (Or.inr rfl))
      (pss_cons (ps_set (i := 5) sc_law_all_folded.nd rfl (Or.inl rfl) (pc c_folded hr (pa_cons (pv 4) (pa_cons (pv 0) pa_nil))))
      (pss_one (ps_if (pt_cmpR op_notN (pv 5) pe_non (nomark _)) (pss_cons (ps_expr (pe_bm PySem.F.plainAttrs_list PySem.F.slot_list_append PySem.F.type_list_append mt_append (pv 2) (pa_cons (pv 5) pa_nil)))
      (pss_one (ps_if (pt_cmpR (op_neD hr.units) (pc c_unfolded hr (pa_cons (pv 5) (pa_cons (pv 0) pa_nil))) (pv 4) (nomark _)) (pss_one (ps_ret pe_bl)) pss_nil))) (pss_one (ps_if (pt_cmpR (op_eqD hr.units) (pe_lc (own := [("_law_at", 6)]) (g := gName 6) (by rfl) sc_law_all_folded.nd (pi_range1 rfl T.b_range (pa_cons (pv 0) pa_nil)) (blkOk_by (own := [("_law_at", 6)]) (N := N_law_all_folded) (sc := defScope s_law_all_folded) (by decide +kernel)) (fun _ _ _ _ _ => pg_name (i := 6) sc_law_all_folded.nd rfl (Or.inl rfl)) (fun _ _ _ _ _ => (pts_one (pt_cmpR op_ne (pe_op op_add (pe_ix (ix_seqK (K := K) rfl) (pv 4) (pv 6) (fun _ _ => rfl)) (pe_ix (ix_seqK (K := K) rfl) (pv 4) (pe_op op_sub (pe_op op_sub (pe_op op_mul pe_int (pv 0)) pe_int) (pv 6)) (fun _ _ => rfl))) (pe_op op_sub (pe_op op_mul pe_int (pv 0)) pe_int) (nomark _)))) (fun _ _ _ _ _ => (pv 6))) (pe_lst pa_nil) (nomark _)) (pss_one (ps_ret pe_bl)) pss_nil))))))))
      (pss_cons (ps_set (i := 7) sc_law_all_folded.nd rfl (Or.inl rfl) pe_int)
      (pss_cons (ps_for PassesOwn.never rfl (pi_range2 rfl T.b_range (pa_cons pe_int (pa_cons (pe_op op_add (pv 0) pe_int) pa_nil))) (pg_name (i := 8) sc_law_all_folded.nd rfl (Or.inl rfl))
      (pss_one (ps_set (i := 7) sc_law_all_folded.nd rfl (Or.inl rfl) (pe_op op_mul (pe_op op_mul (pv 7) pe_int) (pv 8)))))
      (pss_one (ps_ret (pe_cmpR op_eq (pe_callB call_len_seq (by rfl) T.b_len (by decide +kernel) (pa_cons (pv 2) pa_nil)) (pv 7) (nomark _)))))))), ?_⟩
    have n1 : 1 ≤ n := by omega
    have n3 : n ≤ 3 := by omega
    have f64 := few64n (n := n) (by omega)
    have dbl : V.int (2 * (n : Int)) = V.int ((2 * n : Nat) : Int) := congrArg V.int (Int.natCast_mul 2 n).symm
    refine q_g2 ?_
    refine gc_K (ek_make (k := .pl) (n := 2 * n) (ea_cons ev_c (ea_cons (ev_is (ev_op ev_c (ev_var rfl) (rv_I (.inl (few64 (by decide) (by decide))))) dbl) ea_nil)) ⟨by show 1 ≤ 2 * n; omega, by show 2 * n ≤ 7; omega⟩) fun p H1 _ e1 hk => ?_
    refine gc_L (el_lst ea_nil (by show 0 ≤ 100000; decide)) fun fo H2 hfo e2 h2 => ⟨_, _, rfl, ?_⟩
    have htot : (n : Int) * (2 * (n : Int) - 1) + 1 = ((n * (2 * n - 1) + 1 : Nat) : Int) := by rcases hn with rfl | rfl <;> rfl
    have hask : ∀ c, c < n * (2 * n - 1) + 1 → asked (2 * n) c := fun c hc => by
      rcases hn with rfl | rfl
      · exact .inl ⟨rfl, by omega⟩
      · exact .inr ⟨rfl, by omega⟩
    have htot2 : n * (2 * n - 1) + 1 ≤ 7 := by rcases hn with rfl | rfl <;> decide
    refine q_forR1 (n := ((n * (2 * n - 1) + 1 : Nat) : Int)) (ea_cons (ev_is (ev_op (ev_op (ev_var rfl) (ev_op (ev_op ev_c (ev_var rfl) (rv_I (.inl (few64 (by decide) (by decide))))) ev_c rv_I0) (rv_I (.inl f64))) ev_c rv_I0) (congrArg V.int htot)) ea_nil) ⟨by omega, by omega⟩
      (fun i σ' H' => ∃ (x3 x4 x5 : Option V) (rs : List Addr), σ' = [some (.int n), some (.ref p), some (.ref fo), x3, x4, x5, none, none, none] ∧ Ex H1 H' ∧ H' fo = some (.lst (rs.map V.ref)) ∧ rs.length = cntTo n i ∧ rs.length ≤ 64 * i)
      (fun H3 e3 => ⟨none, none, none, [], rfl, e2.trans e3, e3 _ _ h2, rfl, Nat.le_refl _⟩) ?_ ?_
    · rintro c σ' H3 hc ⟨x3, x4, x5, rs, rfl, e3, h3, hrs, hb⟩
      have hc : c < n * (2 * n - 1) + 1 := by omega
      have hac := hask c hc
      refine s_forOrd (n := 2 * n) (c := c) (ea_cons (ev_var rfl) (ea_cons (ev_var rfl) ea_nil)) (hk.mono e3) hac fun l H4 ps hl e4 hps pm => ?_
      have h4 := e4 _ _ h3
      have hlf : l ≠ fo := fun e => by
        rw [e, h3] at hl
        cases hl
      have few := lvls_few hac
      have psl : ps.length = (lvls (2 * n) c).length := by
        have := pm.length_eq
        rw [List.length_map] at this
        exact this
      refine ⟨fun i σ' H' => ∃ (x4 x5 : Option V) (rs2 : List Addr), σ' = [some (.int n), some (.ref p), some (.ref fo), some (.int (c : Int)), x4, x5, none, none, none] ∧ Exl fo H4 H' ∧ H' fo = some (.lst (rs2.map V.ref)) ∧ rs2.length = cntTo n c + ((ps.take i).filter fun q => sym n q.2).length, ?_, ?_, ?_, ?_⟩
      · exact ⟨x4, x5, rs, rfl, Exl.of (Ex.refl _), h4, by rw [hrs]; rfl⟩
      · rintro i σ' H' _ ⟨_, _, _, _, xx, _⟩
        exact xx _ _ hlf hps.at_
      · rintro i q σ' H' hq ⟨y4, y5, rs2, rfl, xx, hf, hr2⟩
        have qm : q ∈ ps := List.mem_of_getElem? hq
        have vq : Vd false (2 * n) q.2 := lvls_vd (2 * n) c q.2 (pm.mem_iff.mp (List.mem_map_of_mem qm))
        have lq := vq.len
        have hq4 := hps.all q qm
        have hqf : q.1 ≠ fo := fun e => by
          have h5 : H4 q.1 = some (.lst (q.2.map V.int)) := hq4
          rw [e, h4] at h5
          have := refs_ne (by injection h5 with h5; injection h5)
          rw [this] at lq
          have : (0 : Nat) = 2 * n := lq
          omega
        have hq' : Ls H' q.1 q.2 := xx _ _ hqf hq4
        have ext : Ex H1 H' := (Exl.ex (e3.trans e4) hfo xx)
        have tk : ((ps.take i).filter fun q => sym n q.2).length ≤ 64 := by
          have h1 := List.length_filter_le (fun q : Addr × List Int => sym n q.2) (ps.take i)
          rw [List.length_take] at h1
          omega
        have tf := take_filter (f := fun q : Addr × List Int => sym n q.2) hq
        cases hs : sym n q.2 with
        | true =>
          have bk := back_of n1 n3 vq hs
          refine q_asgL (el_fld rfl rfl hq' n1 n3 vq hs) fun u H5 hu e5 h5 => ?_
          refine s_if (b := true) (et_test (ev_is (ev_op (ev_var rfl) ev_c rv_notN) (by simp))) (fun _ H6 e6 => ?_) (fun z => by cases z)
          have huf : u ≠ fo := fun e => by
            rw [e, hf] at hu
            cases hu
          have e56 := e5.trans e6
          refine q_app (xs := rs2.map V.ref) (e56 _ _ hf) (ev_var rfl) (ev_var rfl) (by rw [List.length_map]; omega) fun H7 e7 => ?_
          have x7 : Exl fo H' (L2.upd H7 fo (.lst (rs2.map V.ref ++ [.ref u]))) := (Exl.of (e56.trans e7)).trans Exl.upd
          have u7 : Ls (L2.upd H7 fo (.lst (rs2.map V.ref ++ [.ref u]))) u (fld n q.2) := by
            show L2.upd H7 fo _ u = _
            rw [upd_ne huf]
            exact (e6.trans e7) _ _ h5
          have f7 : (L2.upd H7 fo (.lst (rs2.map V.ref ++ [.ref u]))) fo = some (.lst ((rs2 ++ [u]).map V.ref)) := by
            rw [upd_same, List.map_append]
            rfl
          generalize (L2.upd H7 fo (.lst (rs2.map V.ref ++ [.ref u]))) = H8 at x7 u7 f7 ⊢
          refine s_when (b := false) (et_neLv (o := q.2) (by
            have := el_unf (σ := [some (.int n), some (.ref p), some (.ref fo), some (.int (c : Int)), some (.ref q.1), some (.ref u), none, none, none]) (K := K) (C := C) (i1 := 5) (i2 := 0) rfl rfl u7 n1 n3 bk.1
            rw [bk.2] at this
            exact this) (fun _ _ => ev_var rfl) (x7 _ _ hqf hq')) (fun z => by cases z) fun _ H9 e9 => ?_
          refine ⟨_, _, rs2 ++ [u], rfl, (xx.trans x7).trans (Exl.of e9), e9 _ _ f7, ?_⟩
          rw [tf, hs, if_pos rfl, List.length_append, hr2]
          rfl
        | false =>
          refine q_a (go_call (vs := [.ref q.1, .int (n : Int)]) (ea_cons (ev_var rfl) (ea_cons (ev_var rfl) ea_nil)) fun H5 e5 => ⟨q.1, n, q.2, rfl, e5 _ _ hq', n1, n3, vq, .inr ⟨hs, fun H6 e6 => ?_⟩⟩)
          have e56 := e5.trans e6
          refine s_if (b := false) (et_test (ev_is (ev_op (ev_var rfl) ev_c rv_notN) (by simp))) (fun z => by cases z) (fun _ H7 e7 => ?_)
          have e57 := e56.trans e7
          refine s_when (b := false) (et_test (ev_is (ev_eqLL (o := nI (unfit n q.2)) (p := []) (el_unfit (ea_cons (ev_var rfl) ea_nil) (by omega) (fun _ => rfl) (fun _ => rfl) (fun _ => rfl) (fun _ => rfl) (e57 _ _ hq') lq) (el_lst ea_nil (by decide))) (by rw [nI_nil, unfit_nil, hs]))) (fun z => by cases z) fun _ H8 e8 => ?_
          refine ⟨_, _, rs2, rfl, xx.trans (Exl.of (e57.trans e8)), (e57.trans e8) _ _ hf, ?_⟩
          rw [tf, hs, hr2]
          rfl
      · rintro σ' H' ⟨y4, y5, rs2, rfl, xx, hf, hr2⟩
        have e : ((ps.take ps.length).filter fun q => sym n q.2).length = cnt n c := by
          rw [List.take_length]
          have h1 := (pm.filter (sym n)).length_eq
          rw [List.filter_map, List.length_map] at h1
          exact h1
        rw [e] at hr2
        refine ⟨_, _, _, rs2, rfl, Exl.ex (e3.trans e4) hfo xx, hf, hr2, ?_⟩
        have := cnt_le n c
        omega
    · rintro σ' H3 ⟨x3, x4, x5, rs, rfl, e3, h3, hrs, hb⟩
      rw [Int.toNat_natCast] at hrs hb
      refine q_asg ev_c fun H4 e4 => ?_
      have h4 := e4 _ _ h3
      refine q_forR2 (lo := 1) (n := (n : Int) + 1) (ea_cons ev_c (ea_cons (ev_op (ev_var rfl) ev_c rv_I0) ea_nil)) ⟨by decide, by decide, by omega, by omega⟩
        (fun i σ' H' => ∃ x8 : Option V, σ' = [some (.int n), some (.ref p), some (.ref fo), x3, x4, x5, none, some (.int (dueOf i)), x8] ∧ Ex H4 H')
        (fun H5 e5 => ⟨none, rfl, e5⟩) ?_ ?_
      · rintro i σ' H5 hi ⟨x8, rfl, e5⟩
        exact s_asg (ev_op (ev_op (ev_var rfl) ev_c (rv_I (.inr (few64 (by decide) (by decide))))) (ev_var rfl) (rv_I (.inr (few64 (by omega) (by omega))))) fun H6 e6 => ⟨_, rfl, e5.trans e6⟩
      · rintro σ' H5 ⟨x8, rfl, e5⟩
        refine s_ret (ev_is (ev_op (ev_lenq (ev_var rfl) (.inl (sq_of (e5 _ _ h4)))) (ev_var rfl) (rv_eq rfl)) ?_) fun H6 e6 => k H6 ((e1.trans e3).trans ((e4.trans e5).trans e6))
        rw [dec_int, List.length_map, hrs, show ((n : Int) + 1 - 1).toNat = n by omega]
        refine congrArg V.bl (decide_eq_true ?_)
        rcases hn with rfl | rfl
        · exact look_cnt.1
        · exact look_cnt.2
end
end SL

set_option Elab.async false
set_option linter.all false
set_option maxRecDepth 100000
set_option maxHeartbeats 1000000
namespace SL
open PySem PySem.Spec PyProof.Rows L2 Evl
abbrev s_law : Stmt := tp 74
abbrev N_law : List Str := ["_law_script", "_law_index", "_law_generator_here", "_law_turn", "_law_size", "_law_order_here", "_law_found", "_law_at"]
theorem sc_law : FnScope N_law ["_law_script"] (defScope s_law) := ⟨rfl, rfl, rfl, by decide +kernel, rfl, by decide +kernel, by decide +kernel⟩
section
variable {P : Program} {w : World} {K : PySem.W.Frag} {mg : Str → Option Value} {base : Heap} {C D : Addr}
section
variable {σ : L2.St} {H : Hp} {ta tb te : TE} {t u : TT} {tr ts : TA} {x : V} {xs : List V} {Q : VK} {QA : List V → Hp → Prop} {D' : Ends} {tu tz : TS}
/-- mirror_right(generator(script, i)), plain_right(..) -/
theorem ev_right {a : Addr} {ns : List Int} {i : Nat} (h : EvA ts σ H [.ref a, .int (i : Int)]) (hs : SqL K H a (ns.map V.int)) (hi : i ≤ 10) :
    Ev (tCall (sp_law_plain_right K C) [] E0 (tCons (tCall (sp_law_generator K C) [] E0 ts) tNil)) σ H (.bl true) := fun H1 e Q q => h H1 e _ fun H2 e2 =>
  ⟨a, ns, i, rfl, ex_l (e.trans e2) hs, hi, fun g H3 hg e3 gg => ⟨g, rfl, gg, fun H4 x4 => q H4 (Exl.ex (e2.trans e3) (fresh_back e2 hg) x4)⟩⟩
theorem el_fldN {n : Nat} {o : List Int} (h : EvL ta σ H (o.map V.int)) (n1 : 1 ≤ n) (n3 : n ≤ 3) (v : vdB false (2 * n) o = true) (s : sym n o = true) :
    EvL (tCall (sp_folded K C) [] E0 (tCons ta (tCons (tC (.int (n : Int))) tNil))) σ H ((fld n o).map V.int) := fun H1 e Q q => h H1 e _ fun a H2 ha e2 h2 =>
  ⟨a, n, o, rfl, h2, n1, n3, vdB_ok v, .inl ⟨s, fun p H3 hp e3 h3 => q p H3 (fresh_back e2 hp) (e2.trans e3) h3⟩⟩
theorem ev_fldN {n : Nat} {o : List Int} (h : EvL ta σ H (o.map V.int)) (n1 : 1 ≤ n) (n3 : n ≤ 3) (v : vdB false (2 * n) o = true) (s : sym n o = false) :
    Ev (tCall (sp_folded K C) [] E0 (tCons ta (tCons (tC (.int (n : Int))) tNil))) σ H .non := fun H1 e Q q => h H1 e _ fun a H2 ha e2 h2 =>
  ⟨a, n, o, rfl, h2, n1, n3, vdB_ok v, .inr ⟨s, fun H3 e3 => q H3 (e2.trans e3)⟩⟩
theorem el_unfC {n : Nat} {o : List Int} (h1 : EvL ta σ H (o.map V.int)) (n1 : 1 ≤ n) (n3 : n ≤ 3) (v : vdB true n o = true) :
    EvL (tCall (sp_unfolded K C) [] E0 (tCons ta (tCons (tC (.int (n : Int))) tNil))) σ H ((unf n o).map V.int) := fun H1 e Q q => h1 H1 e _ fun a H2 ha e2 h2' =>
  ⟨_, ⟨a, n, o, rfl, h2', n1, n3, vdB_ok v, rfl⟩, fun p H3 hp e3 h3 => q p H3 (fresh_back e2 hp) (e2.trans e3) h3⟩
theorem ev_all {n : Nat} (h : n = 1 ∨ n = 2) : Ev (tCall (sp_law_all_folded K C) [] E0 (tCons (tC (.int (n : Int))) tNil)) σ H (.bl true) := ev_call (ea_cons ev_c ea_nil) (PV.sp fun H1 e => ⟨n, rfl, h, rfl⟩)
theorem l2 {x1 x2 : Int} {t1 t2 : TE} (h1 : Ev t1 σ H (.int x1)) (h2 : Ev t2 σ H (.int x2)) : EvL (tLst (tCons t1 (tCons t2 tNil))) σ H ([x1, x2].map V.int) := el_lst (ea_cons h1 (ea_cons h2 ea_nil)) (by show 2 ≤ 100000; decide)
theorem l3 {x1 x2 x3 : Int} {t1 t2 t3 : TE} (h1 : Ev t1 σ H (.int x1)) (h2 : Ev t2 σ H (.int x2)) (h3 : Ev t3 σ H (.int x3)) : EvL (tLst (tCons t1 (tCons t2 (tCons t3 tNil)))) σ H ([x1, x2, x3].map V.int) := el_lst (ea_cons h1 (ea_cons h2 (ea_cons h3 ea_nil))) (by show 3 ≤ 100000; decide)
theorem l1 {x1 : Int} {t1 : TE} (h1 : Ev t1 σ H (.int x1)) : EvL (tLst (tCons t1 tNil)) σ H ([x1].map V.int) := el_lst (ea_cons h1 ea_nil) (by show 1 ≤ 100000; decide)
theorem l4 {x1 x2 x3 x4 : Int} : EvL (tLst (tCons (tC (.int x1)) (tCons (tC (.int x2)) (tCons (tC (.int x3)) (tCons (tC (.int x4)) tNil))))) σ H ([x1, x2, x3, x4].map V.int) := el_lst (ea_cons ev_c (ea_cons ev_c (ea_cons ev_c (ea_cons ev_c ea_nil)))) (by show 4 ≤ 100000; decide)
theorem l6 {x1 x2 x3 x4 x5 x6 : Int} : EvL (tLst (tCons (tC (.int x1)) (tCons (tC (.int x2)) (tCons (tC (.int x3)) (tCons (tC (.int x4)) (tCons (tC (.int x5)) (tCons (tC (.int x6)) tNil))))))) σ H ([x1, x2, x3, x4, x5, x6].map V.int) :=
  el_lst (ea_cons ev_c (ea_cons ev_c (ea_cons ev_c (ea_cons ev_c (ea_cons ev_c (ea_cons ev_c ea_nil)))))) (by show 6 ≤ 100000; decide)
theorem ev_ng {i : Int} : Ev (tUn (rU fun i => .int (-i)) (tC (.int i))) σ H (.int (-i)) := ev_un ev_c ru_neg
theorem et_notN0 (h : Ev te σ H .non) : EvT (tTest (tOp rNotN te (tC .non))) σ H false := et_test (ev_is (ev_op h ev_c rv_notN) (by simp))
end
def sp_law (K : PySem.W.Frag) (C : Addr) : Sp := fun vs H Q _ => ∃ (a : Addr) (ns : List Int), vs = [.ref a] ∧ SqL K H a (ns.map V.int) ∧ ∀ H2, Q (.bl true) H2
theorem ok_law {f : Addr} {fd : FuncData} (F : FnP K "law" "law" s_law f fd) (T : Tx K w mg C D) (c_law_mirror_right : Cal P w K mg base 9 "_law_mirror_right" (sp_law_mirror_right K C)) (c_law_generator : Cal P w K mg base 2 "_law_generator" (sp_law_generator K C)) (c_law_plain_right : Cal P w K mg base 9 "_law_plain_right" (sp_law_plain_right K C)) (c_law_random : Cal P w K mg base 2 "_law_random" (sp_law_random K C)) (c_law_order : Cal P w K mg base 4 "_law_order" (sp_law_order K C)) (c_folded : Cal P w K mg base 6 "folded" (sp_folded K C)) (c_law_unfolded : Cal P w K mg base 1 "_law_unfolded" (sp_law_unfolded K C)) (c_law_all_folded : Cal P w K mg base 7 "_law_all_folded" (sp_law_all_folded K C)) (c_unfolded : Cal P w K mg base 6 "unfolded" (sp_unfolded K C)) : FnOk P w K mg base CX0 10 f fd ["_law_script"] (sp_law K C) := by
  refine fn0 F sc_law (fun vs H Q E h => ?_) (fun cdv A outer s H vs Q E hr h => ?_)
  · obtain ⟨a, ns, rfl, _⟩ := h
    rfl
  · obtain ⟨a, ns, rfl, hs, k⟩ := h
    refine ⟨_, (pss_cons (ps_for PassesOwn.never rfl (pi_range1 rfl T.b_range (pa_cons pe_int pa_nil)) (pg_name (i := 1) sc_law.nd rfl (Or.inl rfl))
      (pss_one (ps_if (PW.pt (pw_or (pt_not (pt_val (pc c_law_mirror_right hr (pa_cons (pc c_law_generator hr (pa_cons (pv 0) (pa_cons (pv 1) pa_nil))) pa_nil)))) (pw_or1 (pt_not (pt_val (pc c_law_plain_right hr (pa_cons (pc c_law_generator hr (pa_cons (pv 0) (pa_cons (pe_op op_add (pv 1) pe_int) pa_nil))) pa_nil))))))) (pss_one (ps_ret pe_bl)) pss_nil)))
      (pss_cons (ps_set (i := 2) sc_law.nd rfl (Or.inl rfl) (pc c_law_generator hr (pa_cons (pv 0) (pa_cons pe_int pa_nil))))
      (pss_cons (ps_for PassesOwn.never rfl (pi_range1 rfl T.b_range (pa_cons pe_int pa_nil)) (pg_name (i := 3) sc_law.nd rfl (Or.inl rfl))
      (pss_cons (ps_set (i := 4) sc_law.nd rfl (Or.inr rfl) (pe_op op_add pe_int (pc c_law_random hr (pa_cons (pv 2) (pa_cons pe_int pa_nil)))))
      (pss_cons (ps_set (i := 5) sc_law.nd rfl (Or.inr rfl) (pc c_law_order hr (pa_cons (pv 2) (pa_cons (pe_tup (pa_cons pe_str (pa_cons (pe_op op_mul pe_int (pv 4)) pa_nil))) (pa_cons pe_int pa_nil)))))
      (pss_cons (ps_set (i := 6) sc_law.nd rfl (Or.inl rfl) (pc c_folded hr (pa_cons (pv 5) (pa_cons (pv 4) pa_nil))))
      (pss_cons (ps_if (pt_cmpR op_ne (pe_cmpR op_isN (pv 6) pe_non (nomark _)) (pe_cmpR (op_neD hr.units) (pe_lc (own := [("_law_at", 7)]) (g := gName 7) (by rfl) sc_law.nd (pi_range1 rfl T.b_range (pa_cons (pv 4) pa_nil)) (blkOk_by (own := [("_law_at", 7)]) (N := N_law) (sc := defScope s_law) (by decide +kernel)) (fun _ _ _ _ _ => pg_name (i := 7) sc_law.nd rfl (Or.inl rfl)) (fun _ _ _ _ _ => (pts_one (pt_cmpR op_ne (pe_op op_add (pe_ix (ix_seqK (K := K) rfl) (pv 5) (pv 7) (fun _ _ => rfl)) (pe_ix (ix_seqK (K := K) rfl) (pv 5) (pe_op op_sub (pe_op op_sub (pe_op op_mul pe_int (pv 4)) pe_int) (pv 7)) (fun _ _ => rfl))) (pe_op op_sub (pe_op op_mul pe_int (pv 4)) pe_int) (nomark _)))) (fun _ _ _ _ _ => (pv 7))) (pe_lst pa_nil) (nomark _)) (nomark _)) (pss_one (ps_ret pe_bl)) pss_nil)
      (pss_one (ps_if (PW.pt (pw_and (pt_cmpR op_notN (pv 6) pe_non (nomark _)) (pw_and1 (pt_cmpR (op_neD hr.units) (pc c_law_unfolded hr (pa_cons (pv 6) pa_nil)) (pv 5) (nomark _))))) (pss_one (ps_ret pe_bl)) pss_nil)))))))
      (pss_cons (ps_if (PW.pt (pw_or (pt_cmpR op_notN (pc c_folded hr (pa_cons (pe_lst (pa_cons pe_int (pa_cons pe_int (pa_cons pe_int (pa_cons pe_int (pa_cons pe_int (pa_cons pe_int pa_nil))))))) (pa_cons pe_int pa_nil))) pe_non (nomark _)) (pw_or1 (pt_cmpR (op_neD hr.units) (pc c_folded hr (pa_cons (pe_lst (pa_cons pe_int (pa_cons pe_int (pa_cons pe_int (pa_cons pe_int (pa_cons pe_int (pa_cons pe_int pa_nil))))))) (pa_cons pe_int pa_nil))) (pe_lst (pa_cons pe_int (pa_cons (pe_un un_neg pe_int) (pa_cons (pe_un un_neg pe_int) pa_nil)))) (nomark _))))) (pss_one (ps_ret pe_bl)) pss_nil)
      (pss_cons (ps_if (PW.pt (pw_or (pt_not (pt_val (pc c_law_all_folded hr (pa_cons pe_int pa_nil)))) (pw_or1 (pt_not (pt_val (pc c_law_all_folded hr (pa_cons pe_int pa_nil))))))) (pss_one (ps_ret pe_bl)) pss_nil)
      (pss_cons (ps_if (PW.pt (pw_or (pt_cmpR (op_neD hr.units) (pc c_unfolded hr (pa_cons (pe_lst (pa_cons (pe_un un_neg pe_int) (pa_cons pe_int pa_nil))) (pa_cons pe_int pa_nil))) (pe_lst (pa_cons pe_int (pa_cons pe_int (pa_cons pe_int (pa_cons pe_int pa_nil))))) (nomark _)) (pw_or (pt_cmpR (op_neD hr.units) (pc c_folded hr (pa_cons (pe_lst (pa_cons pe_int (pa_cons pe_int (pa_cons pe_int (pa_cons pe_int pa_nil))))) (pa_cons pe_int pa_nil))) (pe_lst (pa_cons pe_int (pa_cons (pe_un un_neg pe_int) pa_nil))) (nomark _)) (pw_or1 (pt_cmpR op_notN (pc c_folded hr (pa_cons (pe_lst (pa_cons pe_int (pa_cons pe_int (pa_cons pe_int (pa_cons pe_int pa_nil))))) (pa_cons pe_int pa_nil))) pe_non (nomark _)))))) (pss_one (ps_ret pe_bl)) pss_nil)
      (pss_one (ps_ret (pe_and (pe_cmpR (op_eqD hr.units) (pc c_unfolded hr (pa_cons (pe_lst (pa_cons (pe_un un_neg pe_int) pa_nil)) (pa_cons pe_int pa_nil))) (pe_lst (pa_cons pe_int (pa_cons pe_int pa_nil))) (nomark _)) (pe_one (pe_cmpR (op_eqD hr.units) (pc c_unfolded hr (pa_cons (pe_lst (pa_cons pe_int (pa_cons pe_int (pa_cons pe_int pa_nil)))) (pa_cons pe_int pa_nil))) (pe_lst (pa_cons pe_int (pa_cons pe_int (pa_cons pe_int (pa_cons pe_int (pa_cons pe_int (pa_cons pe_int pa_nil))))))) (nomark _)))))))))))), ?_⟩
    refine q_forR1 (n := (3 : Int)) (ea_cons ev_c ea_nil) ⟨by decide, by decide⟩
      (fun i σ' H' => ∃ x1 : Option V, σ' = [some (.ref a), x1, none, none, none, none, none, none] ∧ Ex H H') (fun H1 e1 => ⟨none, rfl, e1⟩) ?_ ?_
    · rintro i σ' H1 hi ⟨x1, rfl, e1⟩
      have hs1 := ex_l e1 hs
      refine s_when (b := false) (et_or0 (et_not (a := true) (et_B (ev_right (i := i) (ea_cons (ev_var rfl) (ea_cons (ev_var rfl) ea_nil)) hs1 (by omega)))) (et_not (a := true) (et_B (ev_right (i := i + 3) (ea_cons (ev_var rfl) (ea_cons (ev_op (ev_var rfl) ev_c rv_I0) ea_nil)) hs1 (by omega))))) (fun z => by cases z) fun _ H2 e2 => ⟨_, rfl, e1.trans e2⟩
    · rintro σ' H1 ⟨x1, rfl, e1⟩
      have hs1 := ex_l e1 hs
      refine q_a (go_call (vs := [.ref a, .int 6]) (ea_cons (ev_var rfl) (ea_cons ev_c ea_nil)) fun H2 e2 => ⟨a, ns, 6, rfl, ex_l e2 hs1, by decide, fun g H3 hg e3 gg => ?_⟩)
      refine q_forR1 (n := (4 : Int)) (ea_cons ev_c ea_nil) ⟨by decide, by decide⟩
        (fun i σ' H' => ∃ x3 x4 x5 x6 : Option V, σ' = [some (.ref a), x1, some (.ref g), x3, x4, x5, x6, none] ∧ GenAt H' g (10000 + 14 * (i : Int))) (fun H1 e1 => ⟨none, none, none, none, rfl, (gg.mono e1).le (by omega)⟩) ?_ ?_
      · rintro i σ' H4 hi ⟨x3, x4, x5, x6, rfl, g4⟩
        refine q_draw (c := 2) (b := 2) rfl g4 ⟨by decide, by decide⟩ (by omega) fun r H5 hr5 g5 _ => ?_
        obtain ⟨n, hn⟩ : ∃ n, n = 2 + r := ⟨_, rfl⟩
        rw [← hn]
        have n1 : 1 ≤ n := by omega
        have n3 : n ≤ 3 := by omega
        clear hn
        have dbl : V.int (2 * (n : Int)) = V.int ((2 * n : Nat) : Int) := congrArg V.int (Int.natCast_mul 2 n).symm
        refine q_a (g_call (gc_V (ev_var rfl) fun H6 e6 => ?_))
        refine gc_U (eu_tup (vs := [.str "plain", .int ((2 * n : Nat) : Int)]) (ea_cons ev_c (ea_cons (ev_is (ev_op ev_c (ev_var rfl) (rv_I (.inl (few64 (by decide) (by decide))))) dbl) ea_nil)) (by show 2 ≤ 100000; decide)) fun t H7 _ e7 ht => ?_
        have g7 := g5.mono (e6.trans e7)
        refine ⟨g, t, .pl, 2 * n, 12, _, rfl, g7, by omega, ⟨ht, by decide, by omega, by omega⟩, by show 1 ≤ 2 * n - 1; omega, by decide, fun b H8 o _ _ g8 lb vb => ?_⟩
        have lo := vb.len
        have g8' : ∀ {H9}, Ex H8 H9 → GenAt H9 g (10000 + 14 * ((i + 1 : Nat) : Int)) := fun e => (g8.mono e).le (by omega)
        have vb' : Vd false (2 * n) o := vb
        cases hs : sym n o with
        | true =>
          have bk := back_of n1 n3 vb' hs
          refine q_asgL (el_fld rfl rfl lb n1 n3 vb' hs) fun u H9 hu e9 h9 => ?_
          refine q_not (et_neB (i := false) (j := false) (ev_is (ev_op (ev_var rfl) ev_c rv_isN) (by simp)) (ev_is (ev_neLL (o := nI (unfit n o)) (p := []) (el_unfit (ea_cons (ev_var rfl) ea_nil) (by omega) (fun _ => rfl) (fun _ => rfl) (fun _ => rfl) (fun _ => rfl) (e9 _ _ lb) lo) (el_lst ea_nil (by decide))) (by rw [nI_nil, unfit_nil, hs]; rfl)) rfl) fun H10 e10 => ?_
          refine s_when (b := false) (et_is (et_and (a := true) (b := false) (et_test (ev_is (ev_op (ev_var rfl) ev_c rv_notN) (by simp))) fun _ => et_neLv (o := o) (by
            have := el_lu (σ := [some (.ref a), x1, some (.ref g), some (.int (i : Int)), some (.int (n : Int)), some (.ref b), some (.ref u), none]) (K := K) (C := C) (i1 := 6) rfl (e10 _ _ h9) n1 n3 bk.1
            rw [bk.2] at this
            exact this) (fun _ _ => ev_var rfl) ((e9.trans e10) _ _ lb)) rfl) (fun z => by cases z) fun _ H11 e11 => ⟨_, _, _, _, rfl, g8' ((e9.trans e10).trans e11)⟩
        | false =>
          refine q_a (go_call (vs := [.ref b, .int (n : Int)]) (ea_cons (ev_var rfl) (ea_cons (ev_var rfl) ea_nil)) fun H9 e9 => ⟨b, n, o, rfl, e9 _ _ lb, n1, n3, vb', .inr ⟨hs, fun H10 e10 => ?_⟩⟩)
          have e910 := e9.trans e10
          refine q_not (et_neB (i := true) (j := true) (ev_is (ev_op (ev_var rfl) ev_c rv_isN) (by simp)) (ev_is (ev_neLL (o := nI (unfit n o)) (p := []) (el_unfit (ea_cons (ev_var rfl) ea_nil) (by omega) (fun _ => rfl) (fun _ => rfl) (fun _ => rfl) (fun _ => rfl) (e910 _ _ lb) lo) (el_lst ea_nil (by decide))) (by rw [nI_nil, unfit_nil, hs]; rfl)) rfl) fun H11 e11 => ?_
          refine s_when (b := false) (et_is (et_and (a := false) (b := true) (et_test (ev_is (ev_op (ev_var rfl) ev_c rv_notN) (by simp))) fun z => by cases z) rfl) (fun z => by cases z) fun _ H12 e12 => ⟨_, _, _, _, rfl, g8' ((e910.trans e11).trans e12)⟩
      · rintro σ' H4 ⟨x3, x4, x5, x6, rfl, _⟩
        refine q_not (et_or0 (et_notN0 (ev_fldN (n := 3) l6 (by decide) (by decide) (by decide +kernel) (by decide +kernel))) (et_neLL (el_fldN (n := 3) l6 (by decide) (by decide) (by decide +kernel) (by decide +kernel)) (l3 ev_c ev_ng ev_ng) (by decide +kernel))) fun H5 e5 => ?_
        refine q_not (et_or0 (et_not (a := true) (et_B (ev_all (n := 1) (.inl rfl)))) (et_not (a := true) (et_B (ev_all (n := 2) (.inr rfl))))) fun H6 e6 => ?_
        refine q_not (et_or0 (et_neLL (el_unfC (n := 2) (l2 ev_ng ev_c) (by decide) (by decide) (by decide +kernel)) l4 (by decide +kernel)) (et_or0 (et_neLL (el_fldN (n := 2) l4 (by decide) (by decide) (by decide +kernel) (by decide +kernel)) (l2 ev_c ev_ng) (by decide +kernel)) (et_notN0 (ev_fldN (n := 2) l4 (by decide) (by decide) (by decide +kernel) (by decide +kernel))))) fun H7 e7 => ?_
        refine s_ret (v := .bl true) (ev_andV (a := true) (b := true) (ev_is (ev_eqLL (el_unfC (n := 1) (l1 ev_ng) (by decide) (by decide) (by decide +kernel)) (l2 ev_c ev_c)) (congrArg V.bl (by decide +kernel))) fun _ => ev_is (ev_eqLL (el_unfC (n := 3) (l3 ev_c ev_c ev_c) (by decide) (by decide) (by decide +kernel)) l6) (congrArg V.bl (by decide +kernel))) fun H8 _ => k H8
end
end SL

set_option Elab.async false
set_option linter.all false
set_option maxRecDepth 100000
set_option maxHeartbeats 0
namespace SL
open PySem PySem.Spec PyProof.Rows L2 Evl
def d_is_whole : He.DefD := ⟨("is_whole", none), "is_whole", "is_whole", defArgs s_is_whole, defBody s_is_whole, defScope s_is_whole, [], []⟩
def d_is_between : He.DefD := ⟨("is_between", none), "is_between", "is_between", defArgs s_is_between, defBody s_is_between, defScope s_is_between, [], []⟩
def d_check_number : He.DefD := ⟨("check_number", none), "check_number", "check_number", defArgs s_check_number, defBody s_check_number, defScope s_check_number, [], []⟩
def d_K_init : He.DefD := ⟨("Kind", some "__init__"), "__init__", "Kind.__init__", defArgs s_K_init, defBody s_K_init, defScope s_K_init, [], []⟩
def d_K_name : He.DefD := ⟨("Kind", some "name"), "name", "Kind.name", defArgs s_K_name, defBody s_K_name, defScope s_K_name, [], []⟩
def d_K_size : He.DefD := ⟨("Kind", some "size"), "size", "Kind.size", defArgs s_K_size, defBody s_K_size, defScope s_K_size, [], []⟩
def d_K_steps : He.DefD := ⟨("Kind", some "steps"), "steps", "Kind.steps", defArgs s_K_steps, defBody s_K_steps, defScope s_K_steps, [], []⟩
def d_K_start : He.DefD := ⟨("Kind", some "start"), "start", "Kind.start", defArgs s_K_start, defBody s_K_start, defScope s_K_start, [], []⟩
def d_check_kind : He.DefD := ⟨("check_kind", none), "check_kind", "check_kind", defArgs s_check_kind, defBody s_check_kind, defScope s_check_kind, [], []⟩
def d_is_crossed : He.DefD := ⟨("is_crossed", none), "is_crossed", "is_crossed", defArgs s_is_crossed, defBody s_is_crossed, defScope s_is_crossed, [], []⟩
def d_by_step : He.DefD := ⟨("by_step", none), "by_step", "by_step", defArgs s_by_step, defBody s_by_step, defScope s_by_step, [], []⟩
def d_item_at : He.DefD := ⟨("item_at", none), "item_at", "item_at", defArgs s_item_at, defBody s_item_at, defScope s_item_at, [], []⟩
def d_product_of : He.DefD := ⟨("product_of", none), "product_of", "product_of", defArgs s_product_of, defBody s_product_of, defScope s_product_of, [], []⟩
def d_opposite_of : He.DefD := ⟨("opposite_of", none), "opposite_of", "opposite_of", defArgs s_opposite_of, defBody s_opposite_of, defScope s_opposite_of, [], []⟩
def d_falls_of : He.DefD := ⟨("falls_of", none), "falls_of", "falls_of", defArgs s_falls_of, defBody s_falls_of, defScope s_falls_of, [], []⟩
def d_crossings_of : He.DefD := ⟨("crossings_of", none), "crossings_of", "crossings_of", defArgs s_crossings_of, defBody s_crossings_of, defScope s_crossings_of, [], []⟩
def d_crossings_between : He.DefD := ⟨("crossings_between", none), "crossings_between", "crossings_between", defArgs s_crossings_between, defBody s_crossings_between, defScope s_crossings_between, [], []⟩
def d_is_order_list : He.DefD := ⟨("is_order_list", none), "is_order_list", "is_order_list", defArgs s_is_order_list, defBody s_is_order_list, defScope s_is_order_list, [], []⟩
def d_is_let_order : He.DefD := ⟨("is_let_order", none), "is_let_order", "is_let_order", defArgs s_is_let_order, defBody s_is_let_order, defScope s_is_let_order, [], []⟩
def d_check_order : He.DefD := ⟨("check_order", none), "check_order", "check_order", defArgs s_check_order, defBody s_check_order, defScope s_check_order, [], []⟩
def d_unfolded : He.DefD := ⟨("unfolded", none), "unfolded", "unfolded", defArgs s_unfolded, defBody s_unfolded, defScope s_unfolded, [], []⟩
def d_folded : He.DefD := ⟨("folded", none), "folded", "folded", defArgs s_folded, defBody s_folded, defScope s_folded, [], []⟩
def d_least_row_of : He.DefD := ⟨("least_row_of", none), "least_row_of", "least_row_of", defArgs s_least_row_of, defBody s_least_row_of, defScope s_least_row_of, [], []⟩
def d_check_two_orders : He.DefD := ⟨("check_two_orders", none), "check_two_orders", "check_two_orders", defArgs s_check_two_orders, defBody s_check_two_orders, defScope s_check_two_orders, [], []⟩
def d_lesser : He.DefD := ⟨("lesser", none), "lesser", "lesser", defArgs s_lesser, defBody s_lesser, defScope s_lesser, [], []⟩
def d_is_below : He.DefD := ⟨("is_below", none), "is_below", "is_below", defArgs s_is_below, defBody s_is_below, defScope s_is_below, [], []⟩
def d_is_beneath : He.DefD := ⟨("is_beneath", none), "is_beneath", "is_beneath", defArgs s_is_beneath, defBody s_is_beneath, defScope s_is_beneath, [], []⟩
def d_check_one : He.DefD := ⟨("check_one", none), "check_one", "check_one", defArgs s_check_one, defBody s_check_one, defScope s_check_one, [], []⟩
def d_check_two : He.DefD := ⟨("check_two", none), "check_two", "check_two", defArgs s_check_two, defBody s_check_two, defScope s_check_two, [], []⟩
def d_gain : He.DefD := ⟨("gain", none), "gain", "gain", defArgs s_gain, defBody s_gain, defScope s_gain, [], []⟩
def d_greedy_of : He.DefD := ⟨("greedy_of", none), "greedy_of", "greedy_of", defArgs s_greedy_of, defBody s_greedy_of, defScope s_greedy_of, [], []⟩
def d_gained_all : He.DefD := ⟨("gained_all", none), "gained_all", "gained_all", defArgs s_gained_all, defBody s_gained_all, defScope s_gained_all, [], []⟩
def d_greedy : He.DefD := ⟨("greedy", none), "greedy", "greedy", defArgs s_greedy, defBody s_greedy, defScope s_greedy, [], []⟩
def d_power : He.DefD := ⟨("power", none), "power", "power", defArgs s_power, defBody s_power, defScope s_power, [], []⟩
def d_check_orders : He.DefD := ⟨("check_orders", none), "check_orders", "check_orders", defArgs s_check_orders, defBody s_check_orders, defScope s_check_orders, [], []⟩
def d_crossings : He.DefD := ⟨("crossings", none), "crossings", "crossings", defArgs s_crossings, defBody s_crossings, defScope s_crossings, [], []⟩
def d_falls : He.DefD := ⟨("falls", none), "falls", "falls", defArgs s_falls, defBody s_falls, defScope s_falls, [], []⟩
def d_opposite : He.DefD := ⟨("opposite", none), "opposite", "opposite", defArgs s_opposite, defBody s_opposite, defScope s_opposite, [], []⟩
def d_product : He.DefD := ⟨("product", none), "product", "product", defArgs s_product, defBody s_product, defScope s_product, [], []⟩
def d_multiplied : He.DefD := ⟨("multiplied", none), "multiplied", "multiplied", defArgs s_multiplied, defBody s_multiplied, defScope s_multiplied, [], []⟩
def d_numbers_to : He.DefD := ⟨("numbers_to", none), "numbers_to", "numbers_to", defArgs s_numbers_to, defBody s_numbers_to, defScope s_numbers_to, [], []⟩
def d_how_many_orders : He.DefD := ⟨("how_many_orders", none), "how_many_orders", "how_many_orders", defArgs s_how_many_orders, defBody s_how_many_orders, defScope s_how_many_orders, [], []⟩
def d_orders_with : He.DefD := ⟨("orders_with", none), "orders_with", "orders_with", defArgs s_orders_with, defBody s_orders_with, defScope s_orders_with, [], []⟩
def d_law_hash : He.DefD := ⟨("_law_hash", none), "_law_hash", "_law_hash", defArgs s_law_hash, defBody s_law_hash, defScope s_law_hash, [], []⟩
def d_law_random : He.DefD := ⟨("_law_random", none), "_law_random", "_law_random", defArgs s_law_random, defBody s_law_random, defScope s_law_random, [], []⟩
def d_law_cell : He.DefD := ⟨("_law_cell", none), "_law_cell", "_law_cell", defArgs s_law_cell, defBody s_law_cell, defScope s_law_cell, [], []⟩
def d_law_generator : He.DefD := ⟨("_law_generator", none), "_law_generator", "_law_generator", defArgs s_law_generator, defBody s_law_generator, defScope s_law_generator, [], []⟩
def d_law_start : He.DefD := ⟨("_law_start", none), "_law_start", "_law_start", defArgs s_law_start, defBody s_law_start, defScope s_law_start, [], []⟩
def d_law_steps : He.DefD := ⟨("_law_steps", none), "_law_steps", "_law_steps", defArgs s_law_steps, defBody s_law_steps, defScope s_law_steps, [], []⟩
def d_law_two : He.DefD := ⟨("_law_two", none), "_law_two", "_law_two", defArgs s_law_two, defBody s_law_two, defScope s_law_two, [], []⟩
def d_law_crossed : He.DefD := ⟨("_law_crossed", none), "_law_crossed", "_law_crossed", defArgs s_law_crossed, defBody s_law_crossed, defScope s_law_crossed, [], []⟩
def d_law_stepped : He.DefD := ⟨("_law_stepped", none), "_law_stepped", "_law_stepped", defArgs s_law_stepped, defBody s_law_stepped, defScope s_law_stepped, [], []⟩
def d_law_gains : He.DefD := ⟨("_law_gains", none), "_law_gains", "_law_gains", defArgs s_law_gains, defBody s_law_gains, defScope s_law_gains, [], []⟩
def d_law_row : He.DefD := ⟨("_law_row", none), "_law_row", "_law_row", defArgs s_law_row, defBody s_law_row, defScope s_law_row, [], []⟩
def d_law_order : He.DefD := ⟨("_law_order", none), "_law_order", "_law_order", defArgs s_law_order, defBody s_law_order, defScope s_law_order, [], []⟩
def d_law_unfolded : He.DefD := ⟨("_law_unfolded", none), "_law_unfolded", "_law_unfolded", defArgs s_law_unfolded, defBody s_law_unfolded, defScope s_law_unfolded, [], []⟩
def d_law_mirror_right : He.DefD := ⟨("_law_mirror_right", none), "_law_mirror_right", "_law_mirror_right", defArgs s_law_mirror_right, defBody s_law_mirror_right, defScope s_law_mirror_right, [], []⟩
def d_law_all_folded : He.DefD := ⟨("_law_all_folded", none), "_law_all_folded", "_law_all_folded", defArgs s_law_all_folded, defBody s_law_all_folded, defScope s_law_all_folded, [], []⟩
def d_law_plain_right : He.DefD := ⟨("_law_plain_right", none), "_law_plain_right", "_law_plain_right", defArgs s_law_plain_right, defBody s_law_plain_right, defScope s_law_plain_right, [], []⟩
def d_law : He.DefD := ⟨("law", none), "law", "law", defArgs s_law, defBody s_law, defScope s_law, [], []⟩
def fdl0 : List He.DefD := [d_is_whole, d_is_between, d_check_number, d_K_init, d_K_name, d_K_size, d_K_steps, d_K_start, d_check_kind, d_is_crossed, d_by_step, d_item_at, d_product_of, d_opposite_of, d_falls_of, d_crossings_of, d_crossings_between, d_is_order_list, d_is_let_order, d_check_order, d_unfolded, d_folded, d_least_row_of, d_check_two_orders, d_lesser, d_is_below, d_is_beneath, d_check_one, d_check_two, d_gain]
def fdl1 : List He.DefD := [d_greedy_of, d_gained_all, d_greedy, d_power, d_check_orders, d_crossings, d_falls, d_opposite, d_product, d_multiplied, d_numbers_to, d_how_many_orders, d_orders_with, d_law_hash, d_law_random, d_law_cell, d_law_generator, d_law_start, d_law_steps, d_law_two, d_law_crossed, d_law_stepped, d_law_gains, d_law_row, d_law_order, d_law_unfolded, d_law_mirror_right, d_law_all_folded, d_law_plain_right, d_law]
def fns : List He.DefD := fdl0 ++ fdl1
def fal0 : List He.Fa := [.glo "is_whole", .glo "is_between", .glo "check_number", .glo "check_kind", .glo "is_crossed", .glo "by_step", .glo "item_at", .glo "product_of", .glo "opposite_of", .glo "falls_of", .glo "crossings_of", .glo "crossings_between", .glo "is_order_list", .glo "is_let_order", .glo "check_order", .glo "unfolded", .glo "folded", .glo "least_row_of", .glo "check_two_orders", .glo "lesser", .glo "is_below", .glo "is_beneath", .glo "check_one", .glo "check_two", .glo "gain", .glo "greedy_of", .glo "gained_all", .glo "greedy", .glo "power", .glo "check_orders"]
def fal1 : List He.Fa := [.glo "crossings", .glo "falls", .glo "opposite", .glo "product", .glo "multiplied", .glo "numbers_to", .glo "how_many_orders", .glo "orders_with", .glo "_law_hash", .glo "_law_random", .glo "_law_cell", .glo "_law_generator", .glo "_law_start", .glo "_law_steps", .glo "_law_two", .glo "_law_crossed", .glo "_law_stepped", .glo "_law_gains", .glo "_law_row", .glo "_law_order", .glo "_law_unfolded", .glo "_law_mirror_right", .glo "_law_all_folded", .glo "_law_plain_right", .glo "law", .glo "Kind", .glo "BOUNDS", .free "int", .free "bool", .free "str"]
def fal2 : List He.Fa := [.free "list", .free "tuple", .free "abs", .free "len", .free "sum", .free "max", .free "sorted", .free "isinstance", .free "range", .free "enumerate", .free "reversed", .int "MOST_CROSSINGS" 60, .int "MOST_SIZE" 3, .int "MOST_COUNT" 1000, .int "MOST_ASKED" 200, .int "MOST_LISTED" 1000, .cls "Kind", .noat "Kind" "_name", .noat "Kind" "_size", .mkr "Kind", .meth "Kind" "name", .meth "Kind" "size", .meth "Kind" "steps", .meth "Kind" "start"]
def fas : List He.Fa := fal0 ++ fal1 ++ fal2
def lo0 : List Str := ["SeamError", "InvalidKind", "InvalidOrder", "InvalidNumber", "TooMany", "BOUNDS", "MOST_CROSSINGS", "is_whole", "is_between", "check_number", "Kind", "check_kind", "is_crossed", "by_step", "item_at", "product_of", "opposite_of", "falls_of", "crossings_of", "crossings_between", "is_order_list", "is_let_order", "check_order", "MOST_SIZE", "unfolded", "folded", "least_row_of", "check_two_orders", "lesser", "is_below"]
def lo1 : List Str := ["is_beneath", "MOST_COUNT", "check_one", "check_two", "gain", "greedy_of", "gained_all", "greedy", "power", "MOST_ASKED", "MOST_LISTED", "check_orders", "crossings", "falls", "opposite", "product", "multiplied", "numbers_to", "how_many_orders", "orders_with", "_law_hash", "_law_random", "_law_cell", "_law_generator", "_law_start", "_law_steps", "_law_two", "_law_crossed", "_law_stepped", "_law_gains"]
def lo2 : List Str := ["_law_row", "_law_order", "_law_unfolded", "_law_mirror_right", "_law_all_folded", "_law_plain_right"]
def los : List Str := lo0 ++ lo1 ++ lo2
def nms0 : List Str := ["Kind", "BOUNDS", "is_whole", "is_between", "check_number", "check_kind", "is_crossed", "by_step", "item_at", "product_of", "opposite_of", "falls_of", "crossings_of", "crossings_between", "is_order_list", "is_let_order", "check_order", "unfolded", "folded", "least_row_of", "check_two_orders", "lesser", "is_below", "is_beneath", "check_one", "check_two", "gain", "greedy_of", "gained_all", "greedy"]
def nms1 : List Str := ["power", "check_orders", "crossings", "falls", "opposite", "product", "multiplied", "numbers_to", "how_many_orders", "orders_with", "_law_hash", "_law_random", "_law_cell", "_law_generator", "_law_start", "_law_steps", "_law_two", "_law_crossed", "_law_stepped", "_law_gains", "_law_row", "_law_order", "_law_unfolded", "_law_mirror_right", "_law_all_folded", "_law_plain_right", "law"]
def nms : List Str := nms0 ++ nms1
def kC (K : PySem.W.Frag) : Addr := He.ga K "Kind"
def kD (K : PySem.W.Frag) : Addr := He.ga K "BOUNDS"
/-- where the bounds of a kind stand -/
def bT (K : PySem.W.Frag) (k : Str) : Addr := match PySem.W.nsIn K (kD K) k with
  | some (some (.ref t)) => t
  | _ => 0
def tupA (K : PySem.W.Frag) (a : Addr) (lo hi : Int) : Bool := match K.lookup a with
  | some ⟨.type c, _, .seq its _, _⟩ => decide (c = "tuple") && (decide (its.size ≤ sizeLine) && He.relAll [.int lo, .int hi] its.toList)
  | _ => false
theorem tupA_ok {K : PySem.W.Frag} {a : Addr} {lo hi : Int} (h : tupA K a lo hi = true) (H : Hp) : SqT K H a [.int lo, .int hi] := by
  unfold tupA at h
  cases q : K.lookup a with
  | none =>
    rw [q] at h
    cases h
  | some o =>
    obtain ⟨oc, od, dt, osl⟩ := o
    rw [q] at h
    cases oc with
    | type c =>
      cases dt with
      | seq its n =>
        obtain ⟨h1, h2⟩ := He.ba (show (decide (c = "tuple") && (decide (its.size ≤ sizeLine) && He.relAll [.int lo, .int hi] its.toList)) = true from h)
        obtain ⟨h3, h4⟩ := He.ba h2
        exact .inr ⟨_, its, n, q, congrArg Value.type (of_decide_eq_true h1), rfl, of_decide_eq_true h3, He.relAll_ok h4⟩
      | _ => cases h
    | _ => cases dt <;> cases h
def bB (K : PySem.W.Frag) (k : Kn) : Bool := He.eqO (PySem.W.nsIn K (kD K) k.s) (some (some (.ref (bT K k.s)))) && tupA K (bT K k.s) (if k = .ri then 2 else 1) (if k = .pl then 7 else 5)
def exB (K : PySem.W.Frag) : Bool := He.eqO (PySem.W.findIn K (.ref (kC K)) "__class__") (some (some (.builtin "object.__class__"))) && (He.eqO (PySem.W.specialIn K (.builtin "object.__class__") "__get__") (some (some (.builtin "getset_descriptor.__get__"))) &&
  (decide (PySem.W.takesIn K (.builtin "object.__class__") = some true) && (decide (PySem.W.mroIn K (kC K) (.type "object") = some true) && (decide (PySem.W.kitOne K (.ref (kC K)) (.ref (kC K)) = some true) && (bB K .pl && (bB K .mi && bB K .ri))))))
def tabs : List He.Tab := [(kD, ["plain", "mirror", "ring"])]
theorem turn2_vals {vs : List V} {us : List Value} (h : Vals vs us) : Vals (turn2 vs) (turn2 us) := by
  cases h with
  | nil => exact .nil
  | cons a t =>
    cases t with
    | nil => exact .cons a .nil
    | cons b t =>
      cases t with
      | nil => exact .cons b (.cons a .nil)
      | cons d t => exact .cons a (.cons b (.cons d t))
theorem kb2 {K : PySem.W.Frag} {x qual : Str} {params : Arguments} {body : List Stmt} {scope : Scope} {f : Addr} {fd : FuncData} (F : FunD K x qual params body scope [] [] f fd)
    (h : ∀ (kV doc pm : Value) (an : Option Addr) (cdv ct : Value) (us ws : List Value), (us ++ turn2 ws).length = 2 → bindArgs (PySem.W.fnOf x qual params body scope .none kV doc pm an cdv ct) ⟨us, (["size", "order"] : List Str).zip ws⟩ = pure ((["order", "size"] : List Str).zip (us ++ turn2 ws))) :
    KBinds K fd ["order", "size"] ["size", "order"] (fun us ws => us ++ turn2 ws) (fun vs zs => vs ++ turn2 zs) := by
  obtain ⟨oc, od, dV, kV, doc, pm, an, cdv, ct, osl, rfl, lk, hcd, hD, hK⟩ := F.ex
  rcases hD with ⟨_, rfl⟩ | ⟨e, _⟩
  · exact ⟨fun s us ws _ hl => .of_eq (h kV doc pm an cdv ct us ws hl), fun r1 r2 => r1.append (turn2_vals r2)⟩
  · exact absurd rfl e
theorem kb_unfolded {kV doc pm : Value} {an : Option Addr} {cdv ct : Value} (us ws : List Value) (hl : (us ++ turn2 ws).length = 2) : bindArgs (PySem.W.fnOf "unfolded" "unfolded" (defArgs s_unfolded) (defBody s_unfolded) (defScope s_unfolded) .none kV doc pm an cdv ct) ⟨us, (["size", "order"] : List Str).zip ws⟩ = pure ((["order", "size"] : List Str).zip (us ++ turn2 ws)) := by
  rcases us with _ | ⟨u, _ | ⟨v, _ | ⟨x, us⟩⟩⟩
  · rcases ws with _ | ⟨a, _ | ⟨b, _ | ⟨d, ws⟩⟩⟩
    · cases hl
    · cases hl
    · rfl
    · simp [turn2] at hl
  · rcases ws with _ | ⟨a, _ | ⟨b, _ | ⟨d, ws⟩⟩⟩
    · cases hl
    · rfl
    · simp [turn2] at hl
    · simp [turn2] at hl
  · rcases ws with _ | ⟨a, _ | ⟨b, _ | ⟨d, ws⟩⟩⟩
    · rfl
    · simp [turn2] at hl
    · simp [turn2] at hl
    · simp [turn2] at hl
  · simp at hl
theorem kb_folded {kV doc pm : Value} {an : Option Addr} {cdv ct : Value} (us ws : List Value) (hl : (us ++ turn2 ws).length = 2) : bindArgs (PySem.W.fnOf "folded" "folded" (defArgs s_folded) (defBody s_folded) (defScope s_folded) .none kV doc pm an cdv ct) ⟨us, (["size", "order"] : List Str).zip ws⟩ = pure ((["order", "size"] : List Str).zip (us ++ turn2 ws)) := by
  rcases us with _ | ⟨u, _ | ⟨v, _ | ⟨x, us⟩⟩⟩
  · rcases ws with _ | ⟨a, _ | ⟨b, _ | ⟨d, ws⟩⟩⟩
    · cases hl
    · cases hl
    · rfl
    · simp [turn2] at hl
  · rcases ws with _ | ⟨a, _ | ⟨b, _ | ⟨d, ws⟩⟩⟩
    · cases hl
    · rfl
    · simp [turn2] at hl
    · simp [turn2] at hl
  · rcases ws with _ | ⟨a, _ | ⟨b, _ | ⟨d, ws⟩⟩⟩
    · rfl
    · simp [turn2] at hl
    · simp [turn2] at hl
    · simp [turn2] at hl
  · simp at hl
/-! what is looked at: the names' objects, what they name, the class's methods and what these name -/
def refsL (g : Addr → Option Obj) (as : List Addr) : List Addr := as.flatMap fun a => match g a with
  | some o => He.refsD o
  | none => []
def atN (g : Addr → Option Obj) : List Addr := nms.map fun x => He.ga (He.frG g [mainGlobals]) x
def asC (g : Addr → Option Obj) : List Addr := mainGlobals :: (atN g ++ (refsL g (atN g) ++ (refsL g (refsL g [He.ga (He.frG g [mainGlobals]) "Kind"]) ++ refsL g (refsL g (refsL g [He.ga (He.frG g [mainGlobals]) "Kind"])))))
def obsC (K : PySem.W.Frag) : He.AlX := (He.obsT fas fns tabs K, exB K)
/-- what is told of K -/
structure SaysC (w : World) (K : PySem.W.Frag) : Prop where
  t : He.SaysT fas fns tabs w K
  more : exB K = true
theorem saysC_of {w : World} {K : PySem.W.Frag} (e : obsC K = He.valX fns tabs w) : SaysC w K := ⟨congrArg (fun z : He.AlX => z.1) e, congrArg (fun z : He.AlX => z.2) e⟩
def hk : PySem.W.Hook where
  α := He.AlX
  obs := fun s => obsC (He.frG s.heap.get? (asC s.heap.get?))
  val := fun w => He.valX fns tabs w
  says := fun w h => ∃ K : PySem.W.Frag, K.In h ∧ SaysC w K
  of := fun _ _ e => ⟨_, He.frG_in, saysC_of e⟩
  keeps := fun _ _ _ ⟨K, hK, c⟩ k => ⟨K, PySem.W.Frag.In.keeps hK k, c⟩
def ob (s : PySem.W.SharedT) : He.AlX := obsC (He.frG (HandSHeadRun.getT s) (asC (HandSHeadRun.getT s)))
theorem ob_eq (s : PySem.W.SharedT) : ob s = hk.obs s.abs := by
  have e : HandSHeadRun.getT s = s.abs.heap.get? := funext (HandSHeadRun.getT_eq s)
  unfold ob
  rw [e]
  rfl
abbrev rowO : PySem.W.OpenRow := PySem.W.OpenLaw.row PySem.Challenge.rw_seamlayers_k94_whole_kinds_in_one_anothe
theorem run_no (w : World) : HandSHeadRun.RunEq rowO (PySem.W.view rowO.prog [74]) hk ob 4000 los (w.withFollow "special-get-raises" false) := by
  intro os
  kernel_rfl
theorem run_yes (w : World) : HandSHeadRun.RunEq rowO (PySem.W.view rowO.prog [74]) hk ob 4000 los (w.withFollow "special-get-raises" true) := by
  intro os
  kernel_rfl
theorem run_top (w : World) : HandSHeadRun.RunEq rowO (PySem.W.view rowO.prog [74]) hk ob 4000 los w := PySem.W.byRow2 "special-get-raises" (P := fun w => HandSHeadRun.RunEq rowO (PySem.W.view rowO.prog [74]) hk ob 4000 los w) run_no run_yes w
section
variable {P : Program} {w : World} {K : PySem.W.Frag} {h : Heap} {mg : Str → Option Value}
theorem bnd_ok {C : Addr} (c : SaysC w K) (k : Kn) (hb : bB K k = true) : ∃ (t : Addr) (lo hi : Int), KDct K w (kD K) k.s (.ref t) ∧ (∀ H, SqT K H t [.int lo, .int hi]) ∧ (∃ u, PySem.W.nsIn K (kD K) k.s = some (some u)) ∧ lo = (if k = .ri then 2 else 1) ∧ hi = (if k = .pl then 7 else 5) := by
  obtain ⟨h1, h2⟩ := He.ba hb
  have e := He.eqO_ok h1
  obtain ⟨es, n, kd⟩ := c.t.tab 0 (t := (kD, ["plain", "mirror", "ring"])) rfl
  exact ⟨bT K k.s, _, _, ⟨es, n, _, kd.at_, kd.lit, e, rfl⟩, tupA_ok h2, ⟨_, e⟩, rfl, rfl⟩
theorem tx_ok (X : K.In h) (G : h.Ns mainGlobals mg) (c : SaysC w K) : Tx K w mg (kC K) (kD K) := by
  obtain ⟨e1, m⟩ := He.ba c.more
  obtain ⟨e2, m⟩ := He.ba m
  obtain ⟨e3, m⟩ := He.ba m
  obtain ⟨e4, m⟩ := He.ba m
  obtain ⟨e5, m⟩ := He.ba m
  obtain ⟨b1, m⟩ := He.ba m
  obtain ⟨b2, b3⟩ := He.ba m
  exact {
  ha := He.eqO_ok e1
  hn := He.eqO_ok e2
  htk := of_decide_eq_true e3
  hm := of_decide_eq_true e4
  me := of_decide_eq_true e5
  dd := c.t.tab 0 (t := (kD, ["plain", "mirror", "ring"])) rfl
  bnd := fun k => match k with
    | .pl => bnd_ok (C := kC K) c .pl b1
    | .mi => bnd_ok (C := kC K) c .mi b2
    | .ri => bnd_ok (C := kC K) c .ri b3
  cl := He.cls_ok (c.t.d.fact 76 (f := .cls "Kind") rfl)
  nN := He.noat_ok (c.t.d.fact 77 (f := .noat "Kind" "_name") rfl)
  nS := He.noat_ok (c.t.d.fact 78 (f := .noat "Kind" "_size") rfl)
  Kind := He.glo_ok X G (c.t.d.fact 55 (f := .glo "Kind") rfl)
  BOUNDS := He.glo_ok X G (c.t.d.fact 56 (f := .glo "BOUNDS") rfl)
  MOST_CROSSINGS := He.int_ok X G (c.t.d.fact 71 (f := .int "MOST_CROSSINGS" 60) rfl)
  MOST_SIZE := He.int_ok X G (c.t.d.fact 72 (f := .int "MOST_SIZE" 3) rfl)
  MOST_COUNT := He.int_ok X G (c.t.d.fact 73 (f := .int "MOST_COUNT" 1000) rfl)
  MOST_ASKED := He.int_ok X G (c.t.d.fact 74 (f := .int "MOST_ASKED" 200) rfl)
  MOST_LISTED := He.int_ok X G (c.t.d.fact 75 (f := .int "MOST_LISTED" 1000) rfl)
  b_int := He.free_ok X G (c.t.d.fact 57 (f := .free "int") rfl)
  b_bool := He.free_ok X G (c.t.d.fact 58 (f := .free "bool") rfl)
  b_str := He.free_ok X G (c.t.d.fact 59 (f := .free "str") rfl)
  b_list := He.free_ok X G (c.t.d.fact 60 (f := .free "list") rfl)
  b_tuple := He.free_ok X G (c.t.d.fact 61 (f := .free "tuple") rfl)
  b_abs := He.free_ok X G (c.t.d.fact 62 (f := .free "abs") rfl)
  b_len := He.free_ok X G (c.t.d.fact 63 (f := .free "len") rfl)
  b_sum := He.free_ok X G (c.t.d.fact 64 (f := .free "sum") rfl)
  b_max := He.free_ok X G (c.t.d.fact 65 (f := .free "max") rfl)
  b_sorted := He.free_ok X G (c.t.d.fact 66 (f := .free "sorted") rfl)
  b_isinstance := He.free_ok X G (c.t.d.fact 67 (f := .free "isinstance") rfl)
  b_range := He.free_ok X G (c.t.d.fact 68 (f := .free "range") rfl)
  b_enumerate := He.free_ok X G (c.t.d.fact 69 (f := .free "enumerate") rfl)
  b_reversed := He.free_ok X G (c.t.d.fact 70 (f := .free "reversed") rfl) }
theorem all_ok (X : K.In h) (G : h.Ns mainGlobals mg) {f : Addr} (hfa : mg ("law" : Str) = some (.ref f)) (c : SaysC w K) :
    ∃ fd : FuncData, (∀ (s : Shared) (v : Value), BindsTo s fd ⟨[v], []⟩ [("_law_script", v)]) ∧ ∀ base : Heap, K.In base → base.Ns mainGlobals mg → FnOk P w K mg base CX0 10 f fd ["_law_script"] (sp_law K (kC K)) := by
  have T := tx_ok X G c
  have e := hfa.symm.trans (He.glo_ok X G (c.t.d.fact 54 (f := .glo "law") rfl))
  cases e
  obtain ⟨fdL, FL⟩ := c.t.d.def_ 59 (d := d_law) rfl
  have b := FunD.bindsA (ps := ["_law_script"]) FL fun _ _ _ _ _ _ us hl => match us, hl with | [_], _ => rfl
  refine ⟨fdL, fun s v => b s [v] rfl, fun base _ _ => ?_⟩
  obtain ⟨fd_law_hash, F_law_hash⟩ := c.t.d.def_ 43 (d := d_law_hash) rfl
  have o_law_hash := ok_law_hash (P := P) (w := w) (K := K) (mg := mg) (base := base) (C := kC K) (D := kD K) F_law_hash T 
  have c_law_hash : Cal P w K mg base 1 "_law_hash" (sp_law_hash K (kC K)) := ⟨_, _, _, o_law_hash, He.glo_ok X G (c.t.d.fact 38 (f := .glo "_law_hash") rfl), F_law_hash.kp, (F_law_hash.bindsN (ps := ["_law_seed", "_law_index"]) fun _ _ _ _ _ _ us hl => match us, hl with | [_, _], _ => rfl)⟩
  obtain ⟨fd_law_random, F_law_random⟩ := c.t.d.def_ 44 (d := d_law_random) rfl
  have o_law_random := ok_law_random (P := P) (w := w) (K := K) (mg := mg) (base := base) (C := kC K) (D := kD K) F_law_random T c_law_hash
  have c_law_random : Cal P w K mg base 2 "_law_random" (sp_law_random K (kC K)) := ⟨_, _, _, o_law_random, He.glo_ok X G (c.t.d.fact 39 (f := .glo "_law_random") rfl), F_law_random.kp, (F_law_random.bindsN (ps := ["_law_generator_here", "_law_bound"]) fun _ _ _ _ _ _ us hl => match us, hl with | [_, _], _ => rfl)⟩
  obtain ⟨fd_is_whole, F_is_whole⟩ := c.t.d.def_ 0 (d := d_is_whole) rfl
  have o_is_whole := ok_is_whole (P := P) (w := w) (K := K) (mg := mg) (base := base) (C := kC K) (D := kD K) F_is_whole T 
  have c_is_whole : Cal P w K mg base 1 "is_whole" (sp_is_whole K (kC K)) := ⟨_, _, _, o_is_whole, He.glo_ok X G (c.t.d.fact 0 (f := .glo "is_whole") rfl), F_is_whole.kp, (F_is_whole.bindsN (ps := ["value"]) fun _ _ _ _ _ _ us hl => match us, hl with | [_], _ => rfl)⟩
  obtain ⟨fd_is_between, F_is_between⟩ := c.t.d.def_ 1 (d := d_is_between) rfl
  have o_is_between := ok_is_between (P := P) (w := w) (K := K) (mg := mg) (base := base) (C := kC K) (D := kD K) F_is_between T c_is_whole
  have c_is_between : Cal P w K mg base 2 "is_between" (sp_is_between K (kC K)) := ⟨_, _, _, o_is_between, He.glo_ok X G (c.t.d.fact 1 (f := .glo "is_between") rfl), F_is_between.kp, (F_is_between.bindsN (ps := ["value", "low", "high"]) fun _ _ _ _ _ _ us hl => match us, hl with | [_, _, _], _ => rfl)⟩
  obtain ⟨fd_check_number, F_check_number⟩ := c.t.d.def_ 2 (d := d_check_number) rfl
  have o_check_number := ok_check_number (P := P) (w := w) (K := K) (mg := mg) (base := base) (C := kC K) (D := kD K) F_check_number T c_is_between
  have c_check_number : Cal P w K mg base 3 "check_number" (sp_check_number K (kC K)) := ⟨_, _, _, o_check_number, He.glo_ok X G (c.t.d.fact 2 (f := .glo "check_number") rfl), F_check_number.kp, (F_check_number.bindsN (ps := ["number", "low", "high"]) fun _ _ _ _ _ _ us hl => match us, hl with | [_, _, _], _ => rfl)⟩
  obtain ⟨fd_K_init, F_K_init⟩ := c.t.d.def_ 3 (d := d_K_init) rfl
  have o_K_init := ok_K_init (P := P) (w := w) (K := K) (mg := mg) (base := base) (C := kC K) (D := kD K) F_K_init T c_check_number
  have k_Kind : Mak P w K mg base 4 "Kind" (kC K) (sp_K_init K (kC K)) := ⟨_, _, _, He.mkr_ok (c.t.d.fact 79 (f := .mkr "Kind") rfl), o_K_init, He.glo_ok X G (c.t.d.fact 55 (f := .glo "Kind") rfl), (F_K_init.bindsN (ps := ["self", "name", "size"]) fun _ _ _ _ _ _ us hl => match us, hl with | [_, _, _], _ => rfl)⟩
  obtain ⟨fd_law_two, F_law_two⟩ := c.t.d.def_ 49 (d := d_law_two) rfl
  have o_law_two := ok_law_two (P := P) (w := w) (K := K) (mg := mg) (base := base) (C := kC K) (D := kD K) F_law_two T 
  have c_law_two : Cal P w K mg base 1 "_law_two" (sp_law_two K (kC K)) := ⟨_, _, _, o_law_two, He.glo_ok X G (c.t.d.fact 44 (f := .glo "_law_two") rfl), F_law_two.kp, (F_law_two.bindsN (ps := ["_law_told", "_law_order_here", "_law_step"]) fun _ _ _ _ _ _ us hl => match us, hl with | [_, _, _], _ => rfl)⟩
  obtain ⟨fd_law_crossed, F_law_crossed⟩ := c.t.d.def_ 50 (d := d_law_crossed) rfl
  have o_law_crossed := ok_law_crossed (P := P) (w := w) (K := K) (mg := mg) (base := base) (C := kC K) (D := kD K) F_law_crossed T c_law_two
  have c_law_crossed : Cal P w K mg base 2 "_law_crossed" (sp_law_crossed K (kC K)) := ⟨_, _, _, o_law_crossed, He.glo_ok X G (c.t.d.fact 45 (f := .glo "_law_crossed") rfl), F_law_crossed.kp, (F_law_crossed.bindsN (ps := ["_law_told", "_law_order_here", "_law_step"]) fun _ _ _ _ _ _ us hl => match us, hl with | [_, _, _], _ => rfl)⟩
  obtain ⟨fd_law_stepped, F_law_stepped⟩ := c.t.d.def_ 51 (d := d_law_stepped) rfl
  have o_law_stepped := ok_law_stepped (P := P) (w := w) (K := K) (mg := mg) (base := base) (C := kC K) (D := kD K) F_law_stepped T c_law_two
  have c_law_stepped : Cal P w K mg base 2 "_law_stepped" (sp_law_stepped K (kC K)) := ⟨_, _, _, o_law_stepped, He.glo_ok X G (c.t.d.fact 46 (f := .glo "_law_stepped") rfl), F_law_stepped.kp, (F_law_stepped.bindsN (ps := ["_law_told", "_law_order_here", "_law_step"]) fun _ _ _ _ _ _ us hl => match us, hl with | [_, _, _], _ => rfl)⟩
  obtain ⟨fd_law_gains, F_law_gains⟩ := c.t.d.def_ 52 (d := d_law_gains) rfl
  have o_law_gains := ok_law_gains (P := P) (w := w) (K := K) (mg := mg) (base := base) (C := kC K) (D := kD K) F_law_gains T c_law_crossed c_law_stepped
  have c_law_gains : Cal P w K mg base 3 "_law_gains" (sp_law_gains K (kC K)) := ⟨_, _, _, o_law_gains, He.glo_ok X G (c.t.d.fact 47 (f := .glo "_law_gains") rfl), F_law_gains.kp, (F_law_gains.bindsN (ps := ["_law_told", "_law_order_here", "_law_row_here"]) fun _ _ _ _ _ _ us hl => match us, hl with | [_, _, _], _ => rfl)⟩
  obtain ⟨fd_law_start, F_law_start⟩ := c.t.d.def_ 47 (d := d_law_start) rfl
  have o_law_start := ok_law_start (P := P) (w := w) (K := K) (mg := mg) (base := base) (C := kC K) (D := kD K) F_law_start T 
  have c_law_start : Cal P w K mg base 1 "_law_start" (sp_law_start K (kC K)) := ⟨_, _, _, o_law_start, He.glo_ok X G (c.t.d.fact 42 (f := .glo "_law_start") rfl), F_law_start.kp, (F_law_start.bindsN (ps := ["_law_told"]) fun _ _ _ _ _ _ us hl => match us, hl with | [_], _ => rfl)⟩
  obtain ⟨fd_law_steps, F_law_steps⟩ := c.t.d.def_ 48 (d := d_law_steps) rfl
  have o_law_steps := ok_law_steps (P := P) (w := w) (K := K) (mg := mg) (base := base) (C := kC K) (D := kD K) F_law_steps T 
  have c_law_steps : Cal P w K mg base 1 "_law_steps" (sp_law_steps K (kC K)) := ⟨_, _, _, o_law_steps, He.glo_ok X G (c.t.d.fact 43 (f := .glo "_law_steps") rfl), F_law_steps.kp, (F_law_steps.bindsN (ps := ["_law_told"]) fun _ _ _ _ _ _ us hl => match us, hl with | [_], _ => rfl)⟩
  obtain ⟨fd_law_row, F_law_row⟩ := c.t.d.def_ 53 (d := d_law_row) rfl
  have o_law_row := ok_law_row (P := P) (w := w) (K := K) (mg := mg) (base := base) (C := kC K) (D := kD K) F_law_row T c_law_random c_law_steps
  have c_law_row : Cal P w K mg base 3 "_law_row" (sp_law_row K (kC K)) := ⟨_, _, _, o_law_row, He.glo_ok X G (c.t.d.fact 48 (f := .glo "_law_row") rfl), F_law_row.kp, (F_law_row.bindsN (ps := ["_law_generator_here", "_law_told", "_law_most"]) fun _ _ _ _ _ _ us hl => match us, hl with | [_, _, _], _ => rfl)⟩
  obtain ⟨fd_law_order, F_law_order⟩ := c.t.d.def_ 54 (d := d_law_order) rfl
  have o_law_order := ok_law_order (P := P) (w := w) (K := K) (mg := mg) (base := base) (C := kC K) (D := kD K) F_law_order T c_law_gains c_law_start c_law_row
  have c_law_order : Cal P w K mg base 4 "_law_order" (sp_law_order K (kC K)) := ⟨_, _, _, o_law_order, He.glo_ok X G (c.t.d.fact 49 (f := .glo "_law_order") rfl), F_law_order.kp, (F_law_order.bindsN (ps := ["_law_generator_here", "_law_told", "_law_most"]) fun _ _ _ _ _ _ us hl => match us, hl with | [_, _, _], _ => rfl)⟩
  obtain ⟨fd_law_unfolded, F_law_unfolded⟩ := c.t.d.def_ 55 (d := d_law_unfolded) rfl
  have o_law_unfolded := ok_law_unfolded (P := P) (w := w) (K := K) (mg := mg) (base := base) (C := kC K) (D := kD K) F_law_unfolded T 
  have c_law_unfolded : Cal P w K mg base 1 "_law_unfolded" (sp_law_unfolded K (kC K)) := ⟨_, _, _, o_law_unfolded, He.glo_ok X G (c.t.d.fact 50 (f := .glo "_law_unfolded") rfl), F_law_unfolded.kp, (F_law_unfolded.bindsN (ps := ["_law_order_here"]) fun _ _ _ _ _ _ us hl => match us, hl with | [_], _ => rfl)⟩
  obtain ⟨fd_K_size, F_K_size⟩ := c.t.d.def_ 5 (d := d_K_size) rfl
  have o_K_size := ok_K_size (P := P) (w := w) (K := K) (mg := mg) (base := base) (C := kC K) (D := kD K) F_K_size T 
  have m_size : Met P w K mg base 1 (kC K) "size" (sp_K_size K (kC K)) := ⟨_, _, _, T.cl, He.meth_ok (c.t.d.fact 81 (f := .meth "Kind" "size") rfl), o_K_size, (F_K_size.bindsN (ps := ["self"]) fun _ _ _ _ _ _ us hl => match us, hl with | [_], _ => rfl)⟩
  obtain ⟨fd_K_name, F_K_name⟩ := c.t.d.def_ 4 (d := d_K_name) rfl
  have o_K_name := ok_K_name (P := P) (w := w) (K := K) (mg := mg) (base := base) (C := kC K) (D := kD K) F_K_name T 
  have m_name : Met P w K mg base 1 (kC K) "name" (sp_K_name K (kC K)) := ⟨_, _, _, T.cl, He.meth_ok (c.t.d.fact 80 (f := .meth "Kind" "name") rfl), o_K_name, (F_K_name.bindsN (ps := ["self"]) fun _ _ _ _ _ _ us hl => match us, hl with | [_], _ => rfl)⟩
  obtain ⟨fd_is_order_list, F_is_order_list⟩ := c.t.d.def_ 17 (d := d_is_order_list) rfl
  have o_is_order_list := ok_is_order_list (P := P) (w := w) (K := K) (mg := mg) (base := base) (C := kC K) (D := kD K) F_is_order_list T m_size c_is_whole m_name
  have c_is_order_list : Cal P w K mg base 2 "is_order_list" (sp_is_order_list K (kC K)) := ⟨_, _, _, o_is_order_list, He.glo_ok X G (c.t.d.fact 12 (f := .glo "is_order_list") rfl), F_is_order_list.kp, (F_is_order_list.bindsN (ps := ["kind", "value"]) fun _ _ _ _ _ _ us hl => match us, hl with | [_, _], _ => rfl)⟩
  obtain ⟨fd_crossings_between, F_crossings_between⟩ := c.t.d.def_ 16 (d := d_crossings_between) rfl
  have o_crossings_between := ok_crossings_between (P := P) (w := w) (K := K) (mg := mg) (base := base) (C := kC K) (D := kD K) F_crossings_between T m_name
  have c_crossings_between : Cal P w K mg base 2 "crossings_between" (sp_crossings_between K (kC K)) := ⟨_, _, _, o_crossings_between, He.glo_ok X G (c.t.d.fact 11 (f := .glo "crossings_between") rfl), F_crossings_between.kp, (F_crossings_between.bindsN (ps := ["kind", "size", "low", "high"]) fun _ _ _ _ _ _ us hl => match us, hl with | [_, _, _, _], _ => rfl)⟩
  obtain ⟨fd_crossings_of, F_crossings_of⟩ := c.t.d.def_ 15 (d := d_crossings_of) rfl
  have o_crossings_of := ok_crossings_of (P := P) (w := w) (K := K) (mg := mg) (base := base) (C := kC K) (D := kD K) F_crossings_of T c_crossings_between m_name
  have c_crossings_of : Cal P w K mg base 3 "crossings_of" (sp_crossings_of K (kC K)) := ⟨_, _, _, o_crossings_of, He.glo_ok X G (c.t.d.fact 10 (f := .glo "crossings_of") rfl), F_crossings_of.kp, (F_crossings_of.bindsN (ps := ["kind", "order"]) fun _ _ _ _ _ _ us hl => match us, hl with | [_, _], _ => rfl)⟩
  obtain ⟨fd_is_let_order, F_is_let_order⟩ := c.t.d.def_ 18 (d := d_is_let_order) rfl
  have o_is_let_order := ok_is_let_order (P := P) (w := w) (K := K) (mg := mg) (base := base) (C := kC K) (D := kD K) F_is_let_order T c_is_order_list c_crossings_of
  have c_is_let_order : Cal P w K mg base 4 "is_let_order" (sp_is_let_order K (kC K)) := ⟨_, _, _, o_is_let_order, He.glo_ok X G (c.t.d.fact 13 (f := .glo "is_let_order") rfl), F_is_let_order.kp, (F_is_let_order.bindsN (ps := ["kind", "value"]) fun _ _ _ _ _ _ us hl => match us, hl with | [_, _], _ => rfl)⟩
  obtain ⟨fd_unfolded, F_unfolded⟩ := c.t.d.def_ 20 (d := d_unfolded) rfl
  have o_unfolded := ok_unfolded (P := P) (w := w) (K := K) (mg := mg) (base := base) (C := kC K) (D := kD K) F_unfolded T c_check_number c_is_let_order k_Kind
  have c_unfolded : Cal P w K mg base 6 "unfolded" (sp_unfolded K (kC K)) := ⟨_, _, _, o_unfolded, He.glo_ok X G (c.t.d.fact 15 (f := .glo "unfolded") rfl), F_unfolded.kp, (F_unfolded.bindsN (ps := ["order", "size"]) fun _ _ _ _ _ _ us hl => match us, hl with | [_, _], _ => rfl)⟩
  have c_unfolded_k : CalK P w K mg base 6 "unfolded" ["size", "order"] (sp_unfolded K (kC K)) := ⟨_, _, _, o_unfolded, He.glo_ok X G (c.t.d.fact 15 (f := .glo "unfolded") rfl), F_unfolded.kp, kb2 F_unfolded fun _ _ _ _ _ _ us ws hl => kb_unfolded us ws hl⟩
  obtain ⟨fd_folded, F_folded⟩ := c.t.d.def_ 21 (d := d_folded) rfl
  have o_folded := ok_folded (P := P) (w := w) (K := K) (mg := mg) (base := base) (C := kC K) (D := kD K) F_folded T c_check_number c_is_let_order k_Kind
  have c_folded : Cal P w K mg base 6 "folded" (sp_folded K (kC K)) := ⟨_, _, _, o_folded, He.glo_ok X G (c.t.d.fact 16 (f := .glo "folded") rfl), F_folded.kp, (F_folded.bindsN (ps := ["order", "size"]) fun _ _ _ _ _ _ us hl => match us, hl with | [_, _], _ => rfl)⟩
  have c_folded_k : CalK P w K mg base 6 "folded" ["size", "order"] (sp_folded K (kC K)) := ⟨_, _, _, o_folded, He.glo_ok X G (c.t.d.fact 16 (f := .glo "folded") rfl), F_folded.kp, kb2 F_folded fun _ _ _ _ _ _ us ws hl => kb_folded us ws hl⟩
  obtain ⟨fd_check_kind, F_check_kind⟩ := c.t.d.def_ 8 (d := d_check_kind) rfl
  have o_check_kind := ok_check_kind (P := P) (w := w) (K := K) (mg := mg) (base := base) (C := kC K) (D := kD K) F_check_kind T 
  have c_check_kind : Cal P w K mg base 1 "check_kind" (sp_check_kind K (kC K)) := ⟨_, _, _, o_check_kind, He.glo_ok X G (c.t.d.fact 3 (f := .glo "check_kind") rfl), F_check_kind.kp, (F_check_kind.bindsN (ps := ["kind"]) fun _ _ _ _ _ _ us hl => match us, hl with | [_], _ => rfl)⟩
  obtain ⟨fd_check_order, F_check_order⟩ := c.t.d.def_ 19 (d := d_check_order) rfl
  have o_check_order := ok_check_order (P := P) (w := w) (K := K) (mg := mg) (base := base) (C := kC K) (D := kD K) F_check_order T c_is_let_order
  have c_check_order : Cal P w K mg base 5 "check_order" (sp_check_order K (kC K)) := ⟨_, _, _, o_check_order, He.glo_ok X G (c.t.d.fact 14 (f := .glo "check_order") rfl), F_check_order.kp, (F_check_order.bindsN (ps := ["kind", "order"]) fun _ _ _ _ _ _ us hl => match us, hl with | [_, _], _ => rfl)⟩
  obtain ⟨fd_check_orders, F_check_orders⟩ := c.t.d.def_ 34 (d := d_check_orders) rfl
  have o_check_orders := ok_check_orders (P := P) (w := w) (K := K) (mg := mg) (base := base) (C := kC K) (D := kD K) F_check_orders T c_check_kind c_check_order
  have c_check_orders : Cal P w K mg base 6 "check_orders" (sp_check_orders K (kC K)) := ⟨_, _, _, o_check_orders, He.glo_ok X G (c.t.d.fact 29 (f := .glo "check_orders") rfl), F_check_orders.kp, (F_check_orders.bindsN (ps := ["kind", "orders"]) fun _ _ _ _ _ _ us hl => match us, hl with | [_, _], _ => rfl)⟩
  obtain ⟨fd_crossings, F_crossings⟩ := c.t.d.def_ 35 (d := d_crossings) rfl
  have o_crossings := ok_crossings (P := P) (w := w) (K := K) (mg := mg) (base := base) (C := kC K) (D := kD K) F_crossings T c_check_orders c_crossings_of
  have c_crossings : Cal P w K mg base 7 "crossings" (sp_crossings K (kC K)) := ⟨_, _, _, o_crossings, He.glo_ok X G (c.t.d.fact 30 (f := .glo "crossings") rfl), F_crossings.kp, (F_crossings.bindsN (ps := ["kind", "order"]) fun _ _ _ _ _ _ us hl => match us, hl with | [_, _], _ => rfl)⟩
  obtain ⟨fd_check_one, F_check_one⟩ := c.t.d.def_ 27 (d := d_check_one) rfl
  have o_check_one := ok_check_one (P := P) (w := w) (K := K) (mg := mg) (base := base) (C := kC K) (D := kD K) F_check_one T c_check_kind c_check_order
  have c_check_one : Cal P w K mg base 6 "check_one" (sp_check_one K (kC K)) := ⟨_, _, _, o_check_one, He.glo_ok X G (c.t.d.fact 22 (f := .glo "check_one") rfl), F_check_one.kp, (F_check_one.bindsN (ps := ["kind", "order"]) fun _ _ _ _ _ _ us hl => match us, hl with | [_, _], _ => rfl)⟩
  obtain ⟨fd_check_two, F_check_two⟩ := c.t.d.def_ 28 (d := d_check_two) rfl
  have o_check_two := ok_check_two (P := P) (w := w) (K := K) (mg := mg) (base := base) (C := kC K) (D := kD K) F_check_two T c_check_one c_check_order
  have c_check_two : Cal P w K mg base 7 "check_two" (sp_check_two K (kC K)) := ⟨_, _, _, o_check_two, He.glo_ok X G (c.t.d.fact 23 (f := .glo "check_two") rfl), F_check_two.kp, (F_check_two.bindsN (ps := ["kind", "one", "other"]) fun _ _ _ _ _ _ us hl => match us, hl with | [_, _, _], _ => rfl)⟩
  obtain ⟨fd_is_crossed, F_is_crossed⟩ := c.t.d.def_ 9 (d := d_is_crossed) rfl
  have o_is_crossed := ok_is_crossed (P := P) (w := w) (K := K) (mg := mg) (base := base) (C := kC K) (D := kD K) F_is_crossed T m_name
  have c_is_crossed : Cal P w K mg base 2 "is_crossed" (sp_is_crossed K (kC K)) := ⟨_, _, _, o_is_crossed, He.glo_ok X G (c.t.d.fact 4 (f := .glo "is_crossed") rfl), F_is_crossed.kp, (F_is_crossed.bindsN (ps := ["kind", "order", "step"]) fun _ _ _ _ _ _ us hl => match us, hl with | [_, _, _], _ => rfl)⟩
  obtain ⟨fd_by_step, F_by_step⟩ := c.t.d.def_ 10 (d := d_by_step) rfl
  have o_by_step := ok_by_step (P := P) (w := w) (K := K) (mg := mg) (base := base) (C := kC K) (D := kD K) F_by_step T m_name
  have c_by_step : Cal P w K mg base 2 "by_step" (sp_by_step K (kC K)) := ⟨_, _, _, o_by_step, He.glo_ok X G (c.t.d.fact 5 (f := .glo "by_step") rfl), F_by_step.kp, (F_by_step.bindsN (ps := ["kind", "order", "step"]) fun _ _ _ _ _ _ us hl => match us, hl with | [_, _, _], _ => rfl)⟩
  obtain ⟨fd_gain, F_gain⟩ := c.t.d.def_ 29 (d := d_gain) rfl
  have o_gain := ok_gain (P := P) (w := w) (K := K) (mg := mg) (base := base) (C := kC K) (D := kD K) F_gain T c_is_crossed c_by_step
  have c_gain : Cal P w K mg base 3 "gain" (sp_gain K (kC K)) := ⟨_, _, _, o_gain, He.glo_ok X G (c.t.d.fact 24 (f := .glo "gain") rfl), F_gain.kp, (F_gain.bindsN (ps := ["kind", "order", "step"]) fun _ _ _ _ _ _ us hl => match us, hl with | [_, _, _], _ => rfl)⟩
  obtain ⟨fd_gained_all, F_gained_all⟩ := c.t.d.def_ 31 (d := d_gained_all) rfl
  have o_gained_all := ok_gained_all (P := P) (w := w) (K := K) (mg := mg) (base := base) (C := kC K) (D := kD K) F_gained_all T c_gain
  have c_gained_all : Cal P w K mg base 4 "gained_all" (sp_gained_all K (kC K)) := ⟨_, _, _, o_gained_all, He.glo_ok X G (c.t.d.fact 26 (f := .glo "gained_all") rfl), F_gained_all.kp, (F_gained_all.bindsN (ps := ["kind", "order", "row"]) fun _ _ _ _ _ _ us hl => match us, hl with | [_, _, _], _ => rfl)⟩
  obtain ⟨fd_K_steps, F_K_steps⟩ := c.t.d.def_ 6 (d := d_K_steps) rfl
  have o_K_steps := ok_K_steps (P := P) (w := w) (K := K) (mg := mg) (base := base) (C := kC K) (D := kD K) F_K_steps T 
  have m_steps : Met P w K mg base 1 (kC K) "steps" (sp_K_steps K (kC K)) := ⟨_, _, _, T.cl, He.meth_ok (c.t.d.fact 82 (f := .meth "Kind" "steps") rfl), o_K_steps, (F_K_steps.bindsN (ps := ["self"]) fun _ _ _ _ _ _ us hl => match us, hl with | [_], _ => rfl)⟩
  obtain ⟨fd_falls_of, F_falls_of⟩ := c.t.d.def_ 14 (d := d_falls_of) rfl
  have o_falls_of := ok_falls_of (P := P) (w := w) (K := K) (mg := mg) (base := base) (C := kC K) (D := kD K) F_falls_of T m_steps c_is_crossed
  have c_falls_of : Cal P w K mg base 3 "falls_of" (sp_falls_of K (kC K)) := ⟨_, _, _, o_falls_of, He.glo_ok X G (c.t.d.fact 9 (f := .glo "falls_of") rfl), F_falls_of.kp, (F_falls_of.bindsN (ps := ["kind", "order"]) fun _ _ _ _ _ _ us hl => match us, hl with | [_, _], _ => rfl)⟩
  obtain ⟨fd_least_row_of, F_least_row_of⟩ := c.t.d.def_ 22 (d := d_least_row_of) rfl
  have o_least_row_of := ok_least_row_of (P := P) (w := w) (K := K) (mg := mg) (base := base) (C := kC K) (D := kD K) F_least_row_of T c_falls_of c_by_step
  have c_least_row_of : Cal P w K mg base 4 "least_row_of" (sp_least_row_of K (kC K)) := ⟨_, _, _, o_least_row_of, He.glo_ok X G (c.t.d.fact 17 (f := .glo "least_row_of") rfl), F_least_row_of.kp, (F_least_row_of.bindsN (ps := ["kind", "order"]) fun _ _ _ _ _ _ us hl => match us, hl with | [_, _], _ => rfl)⟩
  obtain ⟨fd_greedy_of, F_greedy_of⟩ := c.t.d.def_ 30 (d := d_greedy_of) rfl
  have o_greedy_of := ok_greedy_of (P := P) (w := w) (K := K) (mg := mg) (base := base) (C := kC K) (D := kD K) F_greedy_of T c_gained_all c_least_row_of
  have c_greedy_of : Cal P w K mg base 5 "greedy_of" (sp_greedy_of K (kC K)) := ⟨_, _, _, o_greedy_of, He.glo_ok X G (c.t.d.fact 25 (f := .glo "greedy_of") rfl), F_greedy_of.kp, (F_greedy_of.bindsN (ps := ["kind", "one", "other"]) fun _ _ _ _ _ _ us hl => match us, hl with | [_, _, _], _ => rfl)⟩
  obtain ⟨fd_greedy, F_greedy⟩ := c.t.d.def_ 32 (d := d_greedy) rfl
  have o_greedy := ok_greedy (P := P) (w := w) (K := K) (mg := mg) (base := base) (C := kC K) (D := kD K) F_greedy T c_check_two c_greedy_of
  have c_greedy : Cal P w K mg base 8 "greedy" (sp_greedy K (kC K)) := ⟨_, _, _, o_greedy, He.glo_ok X G (c.t.d.fact 27 (f := .glo "greedy") rfl), F_greedy.kp, (F_greedy.bindsN (ps := ["kind", "one", "other"]) fun _ _ _ _ _ _ us hl => match us, hl with | [_, _, _], _ => rfl)⟩
  obtain ⟨fd_item_at, F_item_at⟩ := c.t.d.def_ 11 (d := d_item_at) rfl
  have o_item_at := ok_item_at (P := P) (w := w) (K := K) (mg := mg) (base := base) (C := kC K) (D := kD K) F_item_at T m_name
  have c_item_at : Cal P w K mg base 2 "item_at" (sp_item_at K (kC K)) := ⟨_, _, _, o_item_at, He.glo_ok X G (c.t.d.fact 6 (f := .glo "item_at") rfl), F_item_at.kp, (F_item_at.bindsN (ps := ["kind", "order", "place"]) fun _ _ _ _ _ _ us hl => match us, hl with | [_, _, _], _ => rfl)⟩
  obtain ⟨fd_product_of, F_product_of⟩ := c.t.d.def_ 12 (d := d_product_of) rfl
  have o_product_of := ok_product_of (P := P) (w := w) (K := K) (mg := mg) (base := base) (C := kC K) (D := kD K) F_product_of T c_item_at
  have c_product_of : Cal P w K mg base 3 "product_of" (sp_product_of K (kC K)) := ⟨_, _, _, o_product_of, He.glo_ok X G (c.t.d.fact 7 (f := .glo "product_of") rfl), F_product_of.kp, (F_product_of.bindsN (ps := ["kind", "one", "other"]) fun _ _ _ _ _ _ us hl => match us, hl with | [_, _, _], _ => rfl)⟩
  obtain ⟨fd_product, F_product⟩ := c.t.d.def_ 38 (d := d_product) rfl
  have o_product := ok_product (P := P) (w := w) (K := K) (mg := mg) (base := base) (C := kC K) (D := kD K) F_product T c_check_orders c_product_of
  have c_product : Cal P w K mg base 7 "product" (sp_product K (kC K)) := ⟨_, _, _, o_product, He.glo_ok X G (c.t.d.fact 33 (f := .glo "product") rfl), F_product.kp, (F_product.bindsN (ps := ["kind", "one", "other"]) fun _ _ _ _ _ _ us hl => match us, hl with | [_, _, _], _ => rfl)⟩
  obtain ⟨fd_opposite_of, F_opposite_of⟩ := c.t.d.def_ 13 (d := d_opposite_of) rfl
  have o_opposite_of := ok_opposite_of (P := P) (w := w) (K := K) (mg := mg) (base := base) (C := kC K) (D := kD K) F_opposite_of T m_name
  have c_opposite_of : Cal P w K mg base 2 "opposite_of" (sp_opposite_of K (kC K)) := ⟨_, _, _, o_opposite_of, He.glo_ok X G (c.t.d.fact 8 (f := .glo "opposite_of") rfl), F_opposite_of.kp, (F_opposite_of.bindsN (ps := ["kind", "order"]) fun _ _ _ _ _ _ us hl => match us, hl with | [_, _], _ => rfl)⟩
  obtain ⟨fd_opposite, F_opposite⟩ := c.t.d.def_ 37 (d := d_opposite) rfl
  have o_opposite := ok_opposite (P := P) (w := w) (K := K) (mg := mg) (base := base) (C := kC K) (D := kD K) F_opposite T c_check_orders c_opposite_of
  have c_opposite : Cal P w K mg base 7 "opposite" (sp_opposite K (kC K)) := ⟨_, _, _, o_opposite, He.glo_ok X G (c.t.d.fact 32 (f := .glo "opposite") rfl), F_opposite.kp, (F_opposite.bindsN (ps := ["kind", "order"]) fun _ _ _ _ _ _ us hl => match us, hl with | [_, _], _ => rfl)⟩
  obtain ⟨fd_K_start, F_K_start⟩ := c.t.d.def_ 7 (d := d_K_start) rfl
  have o_K_start := ok_K_start (P := P) (w := w) (K := K) (mg := mg) (base := base) (C := kC K) (D := kD K) F_K_start T 
  have m_start : Met P w K mg base 1 (kC K) "start" (sp_K_start K (kC K)) := ⟨_, _, _, T.cl, He.meth_ok (c.t.d.fact 83 (f := .meth "Kind" "start") rfl), o_K_start, (F_K_start.bindsN (ps := ["self"]) fun _ _ _ _ _ _ us hl => match us, hl with | [_], _ => rfl)⟩
  obtain ⟨fd_power, F_power⟩ := c.t.d.def_ 33 (d := d_power) rfl
  have o_power := ok_power (P := P) (w := w) (K := K) (mg := mg) (base := base) (C := kC K) (D := kD K) F_power T c_check_one c_check_number m_start c_greedy_of
  have c_power : Cal P w K mg base 7 "power" (sp_power K (kC K)) := ⟨_, _, _, o_power, He.glo_ok X G (c.t.d.fact 28 (f := .glo "power") rfl), F_power.kp, (F_power.bindsN (ps := ["kind", "order", "count"]) fun _ _ _ _ _ _ us hl => match us, hl with | [_, _, _], _ => rfl)⟩
  obtain ⟨fd_check_two_orders, F_check_two_orders⟩ := c.t.d.def_ 23 (d := d_check_two_orders) rfl
  have o_check_two_orders := ok_check_two_orders (P := P) (w := w) (K := K) (mg := mg) (base := base) (C := kC K) (D := kD K) F_check_two_orders T c_check_kind c_check_order
  have c_check_two_orders : Cal P w K mg base 6 "check_two_orders" (sp_check_two_orders K (kC K)) := ⟨_, _, _, o_check_two_orders, He.glo_ok X G (c.t.d.fact 18 (f := .glo "check_two_orders") rfl), F_check_two_orders.kp, (F_check_two_orders.bindsN (ps := ["kind", "one", "other"]) fun _ _ _ _ _ _ us hl => match us, hl with | [_, _, _], _ => rfl)⟩
  obtain ⟨fd_lesser, F_lesser⟩ := c.t.d.def_ 24 (d := d_lesser) rfl
  have o_lesser := ok_lesser (P := P) (w := w) (K := K) (mg := mg) (base := base) (C := kC K) (D := kD K) F_lesser T c_is_crossed c_by_step
  have c_lesser : Cal P w K mg base 3 "lesser" (sp_lesser K (kC K)) := ⟨_, _, _, o_lesser, He.glo_ok X G (c.t.d.fact 19 (f := .glo "lesser") rfl), F_lesser.kp, (F_lesser.bindsN (ps := ["kind", "order", "step"]) fun _ _ _ _ _ _ us hl => match us, hl with | [_, _, _], _ => rfl)⟩
  obtain ⟨fd_is_below, F_is_below⟩ := c.t.d.def_ 25 (d := d_is_below) rfl
  have o_is_below := ok_is_below (P := P) (w := w) (K := K) (mg := mg) (base := base) (C := kC K) (D := kD K) F_is_below T c_falls_of c_lesser c_by_step m_start
  have c_is_below : Cal P w K mg base 4 "is_below" (sp_is_below K (kC K)) := ⟨_, _, _, o_is_below, He.glo_ok X G (c.t.d.fact 20 (f := .glo "is_below") rfl), F_is_below.kp, (F_is_below.bindsN (ps := ["kind", "one", "other"]) fun _ _ _ _ _ _ us hl => match us, hl with | [_, _, _], _ => rfl)⟩
  obtain ⟨fd_is_beneath, F_is_beneath⟩ := c.t.d.def_ 26 (d := d_is_beneath) rfl
  have o_is_beneath := ok_is_beneath (P := P) (w := w) (K := K) (mg := mg) (base := base) (C := kC K) (D := kD K) F_is_beneath T c_check_two_orders c_is_below
  have c_is_beneath : Cal P w K mg base 7 "is_beneath" (sp_is_beneath K (kC K)) := ⟨_, _, _, o_is_beneath, He.glo_ok X G (c.t.d.fact 21 (f := .glo "is_beneath") rfl), F_is_beneath.kp, (F_is_beneath.bindsN (ps := ["kind", "one", "other"]) fun _ _ _ _ _ _ us hl => match us, hl with | [_, _, _], _ => rfl)⟩
  obtain ⟨fd_falls, F_falls⟩ := c.t.d.def_ 36 (d := d_falls) rfl
  have o_falls := ok_falls (P := P) (w := w) (K := K) (mg := mg) (base := base) (C := kC K) (D := kD K) F_falls T c_check_orders c_falls_of
  have c_falls : Cal P w K mg base 7 "falls" (sp_falls K (kC K)) := ⟨_, _, _, o_falls, He.glo_ok X G (c.t.d.fact 31 (f := .glo "falls") rfl), F_falls.kp, (F_falls.bindsN (ps := ["kind", "order"]) fun _ _ _ _ _ _ us hl => match us, hl with | [_, _], _ => rfl)⟩
  obtain ⟨fd_law_mirror_right, F_law_mirror_right⟩ := c.t.d.def_ 56 (d := d_law_mirror_right) rfl
  have o_law_mirror_right := ok_law_mirror_right (P := P) (w := w) (K := K) (mg := mg) (base := base) (C := kC K) (D := kD K) F_law_mirror_right T c_law_random k_Kind c_law_order c_law_unfolded c_unfolded c_unfolded_k c_folded c_folded_k c_crossings c_greedy c_product c_opposite c_power c_is_beneath c_falls
  have c_law_mirror_right : Cal P w K mg base 9 "_law_mirror_right" (sp_law_mirror_right K (kC K)) := ⟨_, _, _, o_law_mirror_right, He.glo_ok X G (c.t.d.fact 51 (f := .glo "_law_mirror_right") rfl), F_law_mirror_right.kp, (F_law_mirror_right.bindsN (ps := ["_law_generator_here"]) fun _ _ _ _ _ _ us hl => match us, hl with | [_], _ => rfl)⟩
  obtain ⟨fd_law_cell, F_law_cell⟩ := c.t.d.def_ 45 (d := d_law_cell) rfl
  have o_law_cell := ok_law_cell (P := P) (w := w) (K := K) (mg := mg) (base := base) (C := kC K) (D := kD K) F_law_cell T 
  have c_law_cell : Cal P w K mg base 1 "_law_cell" (sp_law_cell K (kC K)) := ⟨_, _, _, o_law_cell, He.glo_ok X G (c.t.d.fact 40 (f := .glo "_law_cell") rfl), F_law_cell.kp, (F_law_cell.bindsN (ps := ["_law_script", "_law_index"]) fun _ _ _ _ _ _ us hl => match us, hl with | [_, _], _ => rfl)⟩
  obtain ⟨fd_law_generator, F_law_generator⟩ := c.t.d.def_ 46 (d := d_law_generator) rfl
  have o_law_generator := ok_law_generator (P := P) (w := w) (K := K) (mg := mg) (base := base) (C := kC K) (D := kD K) F_law_generator T c_law_cell
  have c_law_generator : Cal P w K mg base 2 "_law_generator" (sp_law_generator K (kC K)) := ⟨_, _, _, o_law_generator, He.glo_ok X G (c.t.d.fact 41 (f := .glo "_law_generator") rfl), F_law_generator.kp, (F_law_generator.bindsN (ps := ["_law_script", "_law_index"]) fun _ _ _ _ _ _ us hl => match us, hl with | [_, _], _ => rfl)⟩
  obtain ⟨fd_law_plain_right, F_law_plain_right⟩ := c.t.d.def_ 58 (d := d_law_plain_right) rfl
  have o_law_plain_right := ok_law_plain_right (P := P) (w := w) (K := K) (mg := mg) (base := base) (C := kC K) (D := kD K) F_law_plain_right T c_law_random k_Kind c_law_order c_crossings c_falls c_opposite c_product c_greedy c_is_beneath c_power
  have c_law_plain_right : Cal P w K mg base 9 "_law_plain_right" (sp_law_plain_right K (kC K)) := ⟨_, _, _, o_law_plain_right, He.glo_ok X G (c.t.d.fact 53 (f := .glo "_law_plain_right") rfl), F_law_plain_right.kp, (F_law_plain_right.bindsN (ps := ["_law_generator_here"]) fun _ _ _ _ _ _ us hl => match us, hl with | [_], _ => rfl)⟩
  obtain ⟨fd_multiplied, F_multiplied⟩ := c.t.d.def_ 39 (d := d_multiplied) rfl
  have o_multiplied := ok_multiplied (P := P) (w := w) (K := K) (mg := mg) (base := base) (C := kC K) (D := kD K) F_multiplied T 
  have c_multiplied : Cal P w K mg base 1 "multiplied" (sp_multiplied K (kC K)) := ⟨_, _, _, o_multiplied, He.glo_ok X G (c.t.d.fact 34 (f := .glo "multiplied") rfl), F_multiplied.kp, (F_multiplied.bindsN (ps := ["one", "other", "most"]) fun _ _ _ _ _ _ us hl => match us, hl with | [_, _, _], _ => rfl)⟩
  obtain ⟨fd_numbers_to, F_numbers_to⟩ := c.t.d.def_ 40 (d := d_numbers_to) rfl
  have o_numbers_to := ok_numbers_to (P := P) (w := w) (K := K) (mg := mg) (base := base) (C := kC K) (D := kD K) F_numbers_to T m_size c_multiplied m_name
  have c_numbers_to : Cal P w K mg base 2 "numbers_to" (sp_numbers_to K (kC K)) := ⟨_, _, _, o_numbers_to, He.glo_ok X G (c.t.d.fact 35 (f := .glo "numbers_to") rfl), F_numbers_to.kp, (F_numbers_to.bindsN (ps := ["kind", "most"]) fun _ _ _ _ _ _ us hl => match us, hl with | [_, _], _ => rfl)⟩
  obtain ⟨fd_how_many_orders, F_how_many_orders⟩ := c.t.d.def_ 41 (d := d_how_many_orders) rfl
  have o_how_many_orders := ok_how_many_orders (P := P) (w := w) (K := K) (mg := mg) (base := base) (C := kC K) (D := kD K) F_how_many_orders T c_check_kind c_check_number m_name c_numbers_to
  have c_how_many_orders : Cal P w K mg base 4 "how_many_orders" (sp_how_many_orders K (kC K)) := ⟨_, _, _, o_how_many_orders, He.glo_ok X G (c.t.d.fact 36 (f := .glo "how_many_orders") rfl), F_how_many_orders.kp, (F_how_many_orders.bindsN (ps := ["kind", "crossings"]) fun _ _ _ _ _ _ us hl => match us, hl with | [_, _], _ => rfl)⟩
  obtain ⟨fd_orders_with, F_orders_with⟩ := c.t.d.def_ 42 (d := d_orders_with) rfl
  have o_orders_with := ok_orders_with (P := P) (w := w) (K := K) (mg := mg) (base := base) (C := kC K) (D := kD K) F_orders_with T c_how_many_orders m_start m_steps c_is_crossed c_by_step
  have c_orders_with : Cal P w K mg base 5 "orders_with" (sp_orders_with K (kC K)) := ⟨_, _, _, o_orders_with, He.glo_ok X G (c.t.d.fact 37 (f := .glo "orders_with") rfl), F_orders_with.kp, (F_orders_with.bindsN (ps := ["kind", "crossings"]) fun _ _ _ _ _ _ us hl => match us, hl with | [_, _], _ => rfl)⟩
  obtain ⟨fd_law_all_folded, F_law_all_folded⟩ := c.t.d.def_ 57 (d := d_law_all_folded) rfl
  have o_law_all_folded := ok_law_all_folded (P := P) (w := w) (K := K) (mg := mg) (base := base) (C := kC K) (D := kD K) F_law_all_folded T k_Kind c_orders_with c_folded c_unfolded
  have c_law_all_folded : Cal P w K mg base 7 "_law_all_folded" (sp_law_all_folded K (kC K)) := ⟨_, _, _, o_law_all_folded, He.glo_ok X G (c.t.d.fact 52 (f := .glo "_law_all_folded") rfl), F_law_all_folded.kp, (F_law_all_folded.bindsN (ps := ["_law_size"]) fun _ _ _ _ _ _ us hl => match us, hl with | [_], _ => rfl)⟩
  exact ok_law (P := P) (w := w) (K := K) (mg := mg) (base := base) (C := kC K) (D := kD K) FL T c_law_mirror_right c_law_generator c_law_plain_right c_law_random c_law_order c_folded c_law_unfolded c_law_all_folded c_unfolded
end
end SL
open PySem PySem.W PySem.Calls PyProof.Rows
theorem PySem.Challenge.cw_seamlayers_k94_whole_kinds_in_one_anothe_holds : PySem.Challenge.rw_seamlayers_k94_whole_kinds_in_one_anothe.Holds := by
  w_on; o_law
  refine HandSHeadRun.head_any (r := OpenLaw.row PySem.Challenge.rw_seamlayers_k94_whole_kinds_in_one_anothe) (q := view (OpenLaw.row PySem.Challenge.rw_seamlayers_k94_whole_kinds_in_one_anothe).prog [74]) (H := SL.hk) (ob := SL.ob) (M := 4000) (loose := SL.los) (d := HandSHeadRun.topDef (OpenLaw.row PySem.Challenge.rw_seamlayers_k94_whole_kinds_in_one_anothe).prog 74) (kwd := []) SL.ob_eq
    (by kernel_rfl) (fun s => by kernel_rfl) SL.run_top (by kernel_rfl) (by kernel_rfl) (by kernel_rfl) (by rfl) (by first | assumption | decide +kernel) (by decide +kernel) ⟨rfl, rfl, rfl, rfl, rfl, by decide +kernel⟩ ?hw ?hc
  case hw => w_witness2
  case hc =>
    refine L2.walk_ofE (l := PySem.Challenge.rw_seamlayers_k94_whole_kinds_in_one_anothe) (n := 63) (k := 10) (x := "_law_script") (CX := L2.CX0) rfl (by decide) (by kernel_rfl) ⟨rfl, by decide, by decide⟩ ?F (fun _ _ _ _ z => z)
    intro w mg fa h Y G hmg0
    obtain ⟨K, KX, c⟩ := Y
    have hmg : mg ("law" : PySem.Str) = some (.ref fa) := by
      have e : (HandSHeadRun.topDef (OpenLaw.row PySem.Challenge.rw_seamlayers_k94_whole_kinds_in_one_anothe).prog 74).name = ("law" : PySem.Str) := by kernel_rfl
      rw [← e]
      exact hmg0
    obtain ⟨fd, hb, hF⟩ := SL.all_ok (P := (PySem.Challenge.rw_seamlayers_k94_whole_kinds_in_one_anothe).prog) (w := w) KX G hmg c
    exact ⟨K, fd, SL.sp_law K (SL.kC K), KX, hb, fun H a ns hl _ hS => ⟨a, ns, rfl, hS, fun _ => rfl⟩, hF⟩
