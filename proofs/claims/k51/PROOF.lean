import PyProof.Rows.All
import Wide.All
import OpenK.AllK
import Wide.FinOn
import PyProof.StrBlock2
import PyProof.Rows.StrRev
import PyProof.InstEq
import KE.KOpsOwn
import KE.KCallOwn
import HandS.ForMost
import HandS.Wide
import HandS.Codes
import HandS.ClsMeth
import HandS.OwnEq
import HandS.IsInst
import HandS.Walk
import HandS.FStr
import KE.KIntText
import KE.IntTextLaws
import HandS.Sort
import HandS.Conv
import KE.KDictList
import HandS.Comp
import HandS.Dict
import HandS.DictComp
import HandS.Star
import HandS.RaiseMore
import HandS.StrMore
import HandS.Deep
import PyProof.Rows.SortShellAny
import PyProof.EqAt
import PyProof.NeKinds
import HandS.TryOnly
import HandS.Nested
import HandS.Style
import HandS.Lambda
import HandS.Head0
import HandS.Head1
import HandS.Head2
import HandS.HeadEnd
import HandS.HeadHook1
import HandS.HeadHook2
import KE.KExcSuper
import HandS.ExcInit
import HandS.ExcSuper
import HandS.ExcField
import HandS.ExcIs
import HandS.EndTab
import HandS.List
import HandS.SetFor
import HandS.Strs
import KE.KStateDown
import PySem.Challenge.RW_onewaydays_k51_rows_of_charts
section
set_option Elab.async false
set_option linter.all false
namespace Day
/-! ### rows that are repeated -/
theorem gd_left {a b : List Bool} {i : Nat} (h : i < a.length) : (a ++ b).getD i false = a.getD i false := by
  rw [List.getD_eq_getElem?_getD, List.getElem?_append_left h, ← List.getD_eq_getElem?_getD]
theorem gd_right {a b : List Bool} {i : Nat} (h : a.length ≤ i) : (a ++ b).getD i false = b.getD (i - a.length) false := by
  rw [List.getD_eq_getElem?_getD, List.getElem?_append_right h, ← List.getD_eq_getElem?_getD]
def cyc (l : List Bool) (z : Int) : Bool := l.getD (z % (l.length : Int)).toNat false
def Per (f : Int → Bool) (p : Int) : Prop := ∀ z, f (z + p) = f z
theorem Per.neg {f : Int → Bool} {p : Int} (h : Per f p) : Per f (-p) := fun z => by
  have := h (z + -p)
  rw [show z + -p + p = z by omega] at this
  exact this.symm
theorem Per.add {f : Int → Bool} {p q : Int} (h : Per f p) (k : Per f q) : Per f (p + q) := fun z => by
  rw [show z + (p + q) = z + p + q by omega, k, h]
theorem Per.nat {f : Int → Bool} {p : Int} (h : Per f p) : ∀ n : Nat, Per f ((n : Int) * p)
  | 0 => fun z => by simp
  | n + 1 => by
    have := (Per.nat h n).add h
    rw [show ((n + 1 : Nat) : Int) * p = (n : Int) * p + p by rw [Int.natCast_add, Int.add_mul]; simp]
    exact this
theorem Per.mul {f : Int → Bool} {p : Int} (h : Per f p) (k : Int) : Per f (k * p) := by
  rcases Int.le_total 0 k with e | e
  · have := h.nat k.toNat
    rwa [Int.toNat_of_nonneg e] at this
  · have := (h.nat (-k).toNat).neg
    rw [Int.toNat_of_nonneg (by omega)] at this
    rwa [show -(-k * p) = k * p by rw [Int.neg_mul, Int.neg_neg]] at this
theorem Per.mod {f : Int → Bool} {p q : Int} (h : Per f p) (k : Per f q) : Per f (q % p) := by
  have e : q % p = q + (-(q / p)) * p := by
    have := Int.mul_ediv_add_emod q p
    rw [Int.neg_mul, Int.mul_comm (q / p) p]
    omega
  rw [e]
  exact k.add (h.mul _)
theorem Per.at {f : Int → Bool} {p : Int} (h : Per f p) (z k : Int) : f (z + k * p) = f z := h.mul k z
/-- the least positive period divides all periods -/
theorem least_per {f : Int → Bool} {p : Int} (h0 : 0 < p) (h : Per f p) : ∃ d : Int, 0 < d ∧ Per f d ∧ (∀ e, 0 < e → Per f e → d ≤ e) ∧ ∀ e, Per f e → e % d = 0 := by
  have key : ∀ n : Nat, ∀ p : Int, p.toNat = n → 0 < p → Per f p → ∃ d : Int, 0 < d ∧ Per f d ∧ ∀ e, 0 < e → Per f e → d ≤ e := by
    intro n
    induction n using Nat.strongRecOn with
    | ind n ih =>
      intro p hp h0 h
      by_cases q : ∃ e, 0 < e ∧ Per f e ∧ e < p
      · obtain ⟨e, e0, eh, el⟩ := q
        exact ih e.toNat (by omega) e rfl e0 eh
      · exact ⟨p, h0, h, fun e e0 eh => by
          rcases Int.lt_or_le e p with z | z
          · exact absurd ⟨e, e0, eh, z⟩ q
          · exact z⟩
  obtain ⟨d, d0, dh, dl⟩ := key _ p rfl h0 h
  refine ⟨d, d0, dh, dl, fun e eh => ?_⟩
  have m0 := Int.emod_nonneg e (show d ≠ 0 by omega)
  have m1 := Int.emod_lt_of_pos e d0
  rcases Int.lt_or_eq_of_le m0 with z | z
  · have := dl _ z (dh.mod eh)
    omega
  · exact z.symm
theorem cyc_per {l : List Bool} : Per (cyc l) l.length := fun z => by
  unfold cyc
  rw [Int.add_emod_right]
theorem cyc_nat {l : List Bool} {i : Nat} (h : i < l.length) : cyc l i = l.getD i false := by
  unfold cyc
  rw [Int.emod_eq_of_lt (by omega) (by omega)]
  simp
theorem cyc_mod {l : List Bool} (z : Int) : cyc l (z % l.length) = cyc l z := by
  unfold cyc
  rw [Int.emod_emod_of_dvd z (Int.dvd_refl _)]
theorem getD_ext {l k : List Bool} (hl : l.length = k.length) (h : ∀ i, i < l.length → l.getD i false = k.getD i false) : l = k := by
  apply List.ext_getElem hl
  intro i h1 h2
  have := h i h1
  rw [List.getD_eq_getElem?_getD, List.getD_eq_getElem?_getD, List.getElem?_eq_getElem h1, List.getElem?_eq_getElem h2] at this
  simpa using this
theorem cyc_ext {l k : List Bool} (hl : l.length = k.length) (h : ∀ z, cyc l z = cyc k z) : l = k :=
  getD_ext hl fun i hi => by
    have := h i
    rwa [cyc_nat hi, cyc_nat (hl ▸ hi)] at this
/-- the row is the least that gives what it gives -/
def Prim (l : List Bool) : Prop := ∀ p : Int, 0 < p → Per (cyc l) p → (l.length : Int) ≤ p
/-- the test of root_of -/
def Root (l : List Bool) (s : Nat) : Prop := l.length % s = 0 ∧ (List.replicate (l.length / s) (l.take s)).flatten = l
theorem rep_getD (u : List Bool) : ∀ (k i : Nat), i < k * u.length → (List.replicate k u).flatten.getD i false = u.getD (i % u.length) false
  | 0, i, h => by simp at h
  | k + 1, i, h => by
    rw [List.replicate_succ, List.flatten_cons]
    rcases Nat.lt_or_ge i u.length with q | q
    · rw [gd_left q, Nat.mod_eq_of_lt q]
    · rw [gd_right q, rep_getD u k (i - u.length) (by rw [Nat.succ_mul] at h; omega), ← Nat.mod_eq_sub_mod q]
theorem rep_len (u : List Bool) (k : Nat) : (List.replicate k u).flatten.length = k * u.length := by
  simp [List.length_flatten]
theorem take_getD (l : List Bool) {s i : Nat} (h : i < s) : (l.take s).getD i false = l.getD i false := by
  rw [List.getD_eq_getElem?_getD, List.getD_eq_getElem?_getD, List.getElem?_take, if_pos h]
theorem Root.cyc {l : List Bool} {s : Nat} (h0 : 0 < s) (hs : s ≤ l.length) (h : Root l s) (z : Int) : cyc (l.take s) z = cyc l z := by
  obtain ⟨hm, he⟩ := h
  have hlen : (l.take s).length = s := by rw [List.length_take]; omega
  have hdiv : s * (l.length / s) = l.length := by
    have := Nat.div_add_mod l.length s
    omega
  have hl0 : 0 < l.length := by omega
  have b0 := Int.emod_nonneg z (show (l.length : Int) ≠ 0 by omega)
  have b1 := Int.emod_lt_of_pos z (show (0 : Int) < l.length by omega)
  rw [← cyc_mod (l := l) z]
  generalize hw : z % (l.length : Int) = w at *
  have e1 : Day.cyc l w = l.getD w.toNat false := by
    have := cyc_nat (l := l) (i := w.toNat) (by omega)
    rwa [Int.toNat_of_nonneg b0] at this
  rw [e1]
  have e2 : l.getD w.toNat false = (l.take s).getD (w.toNat % s) false := by
    conv => lhs; rw [← he]
    rw [rep_getD _ _ _ (by rw [hlen, Nat.mul_comm, hdiv]; omega), hlen]
  rw [e2]
  unfold Day.cyc
  rw [hlen]
  have e3 : z % (s : Int) = w % (s : Int) := by
    rw [← hw, Int.emod_emod_of_dvd]
    exact ⟨((l.length / s : Nat) : Int), by rw [← Int.natCast_mul, hdiv]⟩
  have e4 : (w % (s : Int)).toNat = w.toNat % s := by
    obtain ⟨v, rfl⟩ : ∃ v : Nat, w = (v : Int) := ⟨w.toNat, (Int.toNat_of_nonneg b0).symm⟩
    rw [← Int.natCast_emod, Int.toNat_natCast, Int.toNat_natCast]
  rw [e3, e4]
theorem Root.of_per {l : List Bool} {s : Nat} (h0 : 0 < s) (hs : s ≤ l.length) (hm : l.length % s = 0) (h : Per (Day.cyc l) s) : Root l s := by
  refine ⟨hm, ?_⟩
  have hlen : (l.take s).length = s := by rw [List.length_take]; omega
  have hdiv : s * (l.length / s) = l.length := by
    have := Nat.div_add_mod l.length s
    omega
  have hl : (List.replicate (l.length / s) (l.take s)).flatten.length = l.length := by rw [rep_len, hlen, Nat.mul_comm, hdiv]
  refine getD_ext hl fun i hi => ?_
  rw [rep_getD _ _ _ (by rw [hlen, Nat.mul_comm, hdiv]; omega), hlen, take_getD _ (Nat.mod_lt _ h0)]
  have hi' : i < l.length := by omega
  rw [← cyc_nat hi', ← cyc_nat (show i % s < l.length from Nat.lt_of_lt_of_le (Nat.mod_lt _ h0) hs)]
  have := h.at ((i % s : Nat) : Int) ((i / s : Nat) : Int)
  rw [← this]
  congr 1
  have e := Nat.mod_add_div i s
  have : (i : Int) = ((i % s + s * (i / s) : Nat) : Int) := by rw [e]
  rw [this, Int.natCast_add, Int.natCast_mul, Int.mul_comm (s : Int)]
theorem Root.per {l : List Bool} {s : Nat} (h0 : 0 < s) (hs : s ≤ l.length) (h : Root l s) : Per (Day.cyc l) s := fun z => by
  have hlen : (l.take s).length = s := by rw [List.length_take]; omega
  rw [← h.cyc h0 hs, ← h.cyc h0 hs]
  have := cyc_per (l := l.take s) z
  rwa [hlen] at this
theorem prim_len {l : List Bool} (h : l ≠ []) : 0 < l.length := by
  cases l with
  | nil => exact absurd rfl h
  | cons a b => simp
theorem root_some {l : List Bool} {s : Nat} (h0 : 1 ≤ s) (hs : s < l.length) (h : Root l s) (hb : ∀ t, 1 ≤ t → t < s → ¬ Root l t) : Prim (l.take s) := by
  have hlen : (l.take s).length = s := by rw [List.length_take]; omega
  obtain ⟨d, d0, dh, dl, dd⟩ := least_per (f := Day.cyc l) (p := s) (by omega) (h.per h0 (by omega))
  have e1 := dl s (by omega) (h.per h0 (by omega))
  have hld := dd l.length cyc_per
  have dn : d = ((d.toNat : Nat) : Int) := (Int.toNat_of_nonneg (by omega)).symm
  rcases Int.lt_or_eq_of_le e1 with z | z
  · refine absurd (Root.of_per (l := l) (s := d.toNat) (by omega) (by omega) ?_ (by rw [← dn]; exact dh)) (hb _ (by omega) (by omega))
    rw [dn, ← Int.natCast_emod] at hld
    omega
  · intro p p0 hp
    rw [hlen, ← z]
    refine dl p p0 fun y => ?_
    have := hp y
    rwa [h.cyc h0 (by omega), h.cyc h0 (by omega)] at this
theorem root_none {l : List Bool} (h : l ≠ []) (hb : ∀ t, 1 ≤ t → t < l.length → ¬ Root l t) : Prim l := by
  have hl := prim_len h
  obtain ⟨d, d0, dh, dl, dd⟩ := least_per (f := Day.cyc l) (p := l.length) (by omega) cyc_per
  have e1 := dl l.length (by omega) cyc_per
  have hld := dd l.length cyc_per
  have dn : d = ((d.toNat : Nat) : Int) := (Int.toNat_of_nonneg (by omega)).symm
  rcases Int.lt_or_eq_of_le e1 with z | z
  · refine absurd (Root.of_per (l := l) (s := d.toNat) (by omega) (by omega) ?_ (by rw [← dn]; exact dh)) (hb _ (by omega) (by omega))
    rw [dn, ← Int.natCast_emod] at hld
    omega
  · intro p p0 hp
    rw [← z]
    exact dl p p0 hp
/-! ### turning a row -/
def turn (l : List Bool) (k : Int) : List Bool := l.drop (k % (l.length : Int)).toNat ++ l.take (k % (l.length : Int)).toNat
theorem turn_len (l : List Bool) (k : Int) : (turn l k).length = l.length := by
  unfold turn
  rw [List.length_append, List.length_drop, List.length_take]
  omega
theorem turn_ne {l : List Bool} {k : Int} (h : l ≠ []) : turn l k ≠ [] := fun e => by
  have := turn_len l k
  rw [e] at this
  have := prim_len h
  simp at *
  omega
theorem turn_cyc {l : List Bool} (h : l ≠ []) (k z : Int) : cyc (turn l k) z = cyc l (z + k) := by
  have hl := prim_len h
  have k0 := Int.emod_nonneg k (show (l.length : Int) ≠ 0 by omega)
  have k1 := Int.emod_lt_of_pos k (show (0 : Int) < l.length by omega)
  have z0 := Int.emod_nonneg z (show (l.length : Int) ≠ 0 by omega)
  have z1 := Int.emod_lt_of_pos z (show (0 : Int) < l.length by omega)
  have e1 : cyc l (z + k) = cyc l (z % l.length + k % l.length) := by
    rw [← cyc_mod (z + k), ← cyc_mod (z % l.length + k % l.length), ← Int.add_emod]
  rw [e1]
  have e2 : cyc (turn l k) z = (turn l k).getD (z % l.length).toNat false := by
    show (turn l k).getD (z % ((turn l k).length : Int)).toNat false = _
    rw [turn_len]
  rw [e2]
  unfold turn
  generalize z % (l.length : Int) = y at *
  generalize k % (l.length : Int) = j at *
  rcases Int.lt_or_le (y + j) l.length with q | q
  · rw [gd_left (by rw [List.length_drop]; omega)]
    rw [List.getD_eq_getElem?_getD, List.getElem?_drop, ← List.getD_eq_getElem?_getD]
    have := cyc_nat (l := l) (i := (y + j).toNat) (by omega)
    rw [Int.toNat_of_nonneg (by omega)] at this
    rw [this]
    congr 1
    omega
  · rw [gd_right (by rw [List.length_drop]; omega), List.length_drop, take_getD _ (by omega)]
    have h1 : cyc l (y + j) = cyc l (y + j - l.length) := by
      have := cyc_per (l := l) (y + j - l.length)
      rw [show y + j - (l.length : Int) + l.length = y + j by omega] at this
      exact this
    rw [h1]
    have := cyc_nat (l := l) (i := (y + j - l.length).toNat) (by omega)
    rw [Int.toNat_of_nonneg (by omega)] at this
    rw [this]
    congr 1
    omega
theorem turn_prim {l : List Bool} (h : l ≠ []) (k : Int) (p : Prim l) : Prim (turn l k) := fun q q0 hq => by
  rw [turn_len]
  refine p q q0 fun z => ?_
  have := hq (z - k)
  rw [turn_cyc h, turn_cyc h, show z - k + q + k = z + q by omega, show z - k + k = z by omega] at this
  exact this
/-! ### forms -/
structure Frm where
  l : List Bool
  low : Int
  m : List Bool
  r : List Bool
def Frm.high (F : Frm) : Int := F.low + (F.m.length : Int)
/-- the sign of a day -/
def Frm.mem (F : Frm) (n : Int) : Bool :=
  if F.high ≤ n then cyc F.r (n - F.high) else if n < F.low then cyc F.l (n - F.low) else F.m.getD (n - F.low).toNat false
theorem Frm.low_high (F : Frm) : F.low ≤ F.high := by unfold Frm.high; omega
theorem Frm.mem_up (F : Frm) {n : Int} (h : F.high ≤ n) : F.mem n = cyc F.r (n - F.high) := if_pos h
theorem Frm.mem_dn (F : Frm) {n : Int} (h : n < F.low) : F.mem n = cyc F.l (n - F.low) := by
  unfold Frm.mem
  rw [if_neg (by have := F.low_high; omega), if_pos h]
theorem Frm.mem_mid (F : Frm) {n : Int} (h : F.low ≤ n) (h' : n < F.high) : F.mem n = F.m.getD (n - F.low).toNat false := by
  unfold Frm.mem
  rw [if_neg (by omega), if_neg (by omega)]
theorem Frm.up (F : Frm) {n : Int} (h : F.high ≤ n) : F.mem (n + F.r.length) = F.mem n := by
  rw [F.mem_up h, F.mem_up (by omega), show n + (F.r.length : Int) - F.high = n - F.high + F.r.length by omega, cyc_per]
theorem Frm.dn (F : Frm) {n : Int} (h : n < F.low) : F.mem (n - F.l.length) = F.mem n := by
  rw [F.mem_dn h, F.mem_dn (by omega)]
  have := cyc_per (l := F.l) (n - F.l.length - F.low)
  rw [← this]
  congr 1
  omega
/-- the least form -/
structure Least (F : Frm) : Prop where
  l0 : F.l ≠ []
  r0 : F.r ≠ []
  pl : Prim F.l
  pr : Prim F.r
  body : (F.m ≠ [] ∧ F.mem (F.high - 1) ≠ F.mem (F.high - 1 + F.r.length) ∧ F.mem F.low ≠ F.mem (F.low - F.l.length)) ∨
    (F.m = [] ∧ F.l = F.r ∧ F.low = 0) ∨ (F.m = [] ∧ F.mem (F.high - 1) ≠ F.mem (F.high - 1 + F.r.length))
/-- f comes again after p days upwards from b on -/
def Up (f : Int → Bool) (p b : Int) : Prop := ∀ n, b ≤ n → f (n + p) = f n
/-- .. downwards below b -/
def Dn (f : Int → Bool) (p b : Int) : Prop := ∀ n, n < b → f (n - p) = f n
theorem Up.nat {f : Int → Bool} {p b : Int} (h0 : 0 < p) (h : Up f p b) : ∀ (k : Nat) (n : Int), b ≤ n → f (n + k * p) = f n
  | 0, n, _ => by simp
  | k + 1, n, hn => by
    have e : n + ((k + 1 : Nat) : Int) * p = n + p + k * p := by
      rw [Int.natCast_add, Int.add_mul]
      simp
      omega
    rw [e, Up.nat h0 h k (n + p) (by omega), h n hn]
theorem Dn.nat {f : Int → Bool} {p b : Int} (h0 : 0 < p) (h : Dn f p b) : ∀ (k : Nat) (n : Int), n < b → f (n - k * p) = f n
  | 0, n, _ => by simp
  | k + 1, n, hn => by
    have e : n - ((k + 1 : Nat) : Int) * p = n - p - k * p := by
      rw [Int.natCast_add, Int.add_mul]
      simp
      omega
    rw [e, Dn.nat h0 h k (n - p) (by omega), h n hn]
theorem Up.mono {f : Int → Bool} {p b c : Int} (h : Up f p b) (hc : b ≤ c) : Up f p c := fun n hn => h n (by omega)
theorem Dn.mono {f : Int → Bool} {p b c : Int} (h : Dn f p b) (hc : c ≤ b) : Dn f p c := fun n hn => h n (by omega)
theorem big_mul {p : Int} (h : 0 < p) (z : Int) : ∃ k : Nat, z ≤ k * p := by
  refine ⟨z.toNat, ?_⟩
  have h1 : (z.toNat : Int) * 1 ≤ z.toNat * p := Int.mul_le_mul_of_nonneg_left (by omega) (by omega)
  omega
/-- a period from some day on of a form's function is one of its right row -/
theorem Frm.per_r (F : Frm) (h0 : F.r ≠ []) {p b : Int} (h : Up F.mem p b) : Per (cyc F.r) p := fun z => by
  have hl := prim_len h0
  obtain ⟨k, hk⟩ := big_mul (p := F.r.length) (by omega) (max (b - F.high - z) 0 + max (-z) 0 + max (-p) 0)
  generalize hK : (k : Int) * F.r.length = K at *
  have e1 := F.mem_up (n := z + K + F.high) (by omega)
  have e2 := F.mem_up (n := z + K + F.high + p) (by omega)
  have e3 := h (z + K + F.high) (by omega)
  rw [e1, e2, show z + K + F.high - F.high = z + K by omega, show z + K + F.high + p - F.high = z + p + K by omega, ← hK, cyc_per.at, cyc_per.at] at e3
  exact e3
theorem Frm.per_l (F : Frm) (h0 : F.l ≠ []) {p b : Int} (h : Dn F.mem p b) : Per (cyc F.l) p := fun z => by
  have hl := prim_len h0
  obtain ⟨k, hk⟩ := big_mul (p := F.l.length) (by omega) (max (F.low - b + z) 0 + max z 0 + max p 0 + max (-p) 0 + 1 + max (F.low - b + z + p) 0)
  generalize hK : (k : Int) * F.l.length = K at *
  have e1 := F.mem_dn (n := z + p - K + F.low) (by omega)
  have e2 := F.mem_dn (n := z + p - K + F.low - p) (by omega)
  have e3 := h (z + p - K + F.low) (by omega)
  have e4 : ∀ y : Int, cyc F.l (y - K) = cyc F.l y := fun y => by
    have := cyc_per (l := F.l) |>.at (y - K) k
    rw [hK, show y - K + K = y by omega] at this
    exact this.symm
  rw [e1, e2, show z + p - K + F.low - F.low = z + p - K by omega, show z + p - K + F.low - p - F.low = z - K by omega, e4, e4] at e3
  exact e3.symm
theorem Least.r_le {F : Frm} (L : Least F) {p b : Int} (h0 : 0 < p) (h : Up F.mem p b) : (F.r.length : Int) ≤ p := L.pr p h0 (F.per_r L.r0 h)
theorem Least.l_le {F : Frm} (L : Least F) {p b : Int} (h0 : 0 < p) (h : Dn F.mem p b) : (F.l.length : Int) ≤ p := L.pl p h0 (F.per_l L.l0 h)
theorem Prim.dvd {l : List Bool} (h0 : l ≠ []) (h : Prim l) {p : Int} (hp : Per (cyc l) p) : p % l.length = 0 := by
  have hl := prim_len h0
  have m0 := Int.emod_nonneg p (show (l.length : Int) ≠ 0 by omega)
  have m1 := Int.emod_lt_of_pos p (show (0 : Int) < l.length by omega)
  rcases Int.lt_or_eq_of_le m0 with z | z
  · have := h _ z (cyc_per.mod hp)
    omega
  · exact z.symm
theorem Least.r_dvd {F : Frm} (L : Least F) {p b : Int} (h : Up F.mem p b) : p % F.r.length = 0 := L.pr.dvd L.r0 (F.per_r L.r0 h)
theorem Least.l_dvd {F : Frm} (L : Least F) {p b : Int} (h : Dn F.mem p b) : p % F.l.length = 0 := L.pl.dvd L.l0 (F.per_l L.l0 h)
theorem Least.mono_up {F : Frm} (L : Least F) {p b : Int} (h0 : 0 < p) (h : Up F.mem p b) : Up F.mem F.r.length b := fun n hn => by
  have hl := prim_len L.r0
  obtain ⟨k, hk⟩ := big_mul h0 (max (F.high - n) 0)
  have e1 := h.nat h0 k n hn
  have e2 := h.nat h0 k (n + F.r.length) (by omega)
  have e3 := F.up (n := n + k * p) (by omega)
  rw [← e1, ← e2, ← e3]
  congr 1
  omega
theorem Least.mono_dn {F : Frm} (L : Least F) {p b : Int} (h0 : 0 < p) (h : Dn F.mem p b) : Dn F.mem F.l.length b := fun n hn => by
  have hl := prim_len L.l0
  obtain ⟨k, hk⟩ := big_mul h0 (max (n - F.low + 1) 0)
  have e1 := h.nat h0 k n hn
  have e2 := h.nat h0 k (n - F.l.length) (by omega)
  have e3 := F.dn (n := n - k * p) (by omega)
  rw [← e1, ← e2, ← e3]
  congr 1
  omega
/-- all of it comes again -/
theorem Least.all_per {F : Frm} (L : Least F) (h : F.m = [] ∧ F.l = F.r ∧ F.low = 0) : ∀ n, F.mem n = cyc F.r n := fun n => by
  obtain ⟨hm, hl, h0⟩ := h
  have hh : F.high = 0 := by unfold Frm.high; rw [hm, h0]; rfl
  rcases Int.lt_or_le n 0 with q | q
  · rw [F.mem_dn (by omega), hl, h0]
    congr 1
    omega
  · rw [F.mem_up (by omega), hh]
    congr 1
    omega
theorem Least.up_high {F : Frm} (L : Least F) : Up F.mem F.r.length F.high := fun _ hn => F.up hn
theorem Least.dn_low {F : Frm} (L : Least F) : Dn F.mem F.l.length F.low := fun _ hn => F.dn hn
/-- the odd day at the upper end -/
theorem Least.odd {F : Frm} (L : Least F) (h : ¬ (F.m = [] ∧ F.l = F.r ∧ F.low = 0)) : F.mem (F.high - 1) ≠ F.mem (F.high - 1 + F.r.length) := by
  rcases L.body with z | z | z
  · exact z.2.1
  · exact absurd z h
  · exact z.2
/-- one function has one least form -/
theorem Least.unique {F G : Frm} (L : Least F) (M : Least G) (h : ∀ n, F.mem n = G.mem n) : F = G := by
  have hf : F.mem = G.mem := funext h
  have lr := prim_len L.r0
  have lr' := prim_len M.r0
  have ll := prim_len L.l0
  have ll' := prim_len M.l0
  have e1 : (F.r.length : Int) = G.r.length := by
    have a := L.r_le (p := G.r.length) (b := G.high) (by omega) (by rw [hf]; exact M.up_high)
    have b := M.r_le (p := F.r.length) (b := F.high) (by omega) (by rw [← hf]; exact L.up_high)
    omega
  have e2 : (F.l.length : Int) = G.l.length := by
    have a := L.l_le (p := G.l.length) (b := G.low) (by omega) (by rw [hf]; exact M.dn_low)
    have b := M.l_le (p := F.l.length) (b := F.low) (by omega) (by rw [← hf]; exact L.dn_low)
    omega
  have rows : F.low = G.low → F.high = G.high → F = G := fun a b => by
    have r : F.r = G.r := cyc_ext (by omega) fun z => by
      obtain ⟨k, hk⟩ := big_mul (p := F.r.length) (by omega) (max (-z) 0)
      have x := F.mem_up (n := z + k * F.r.length + F.high) (by omega)
      have y := G.mem_up (n := z + k * F.r.length + F.high) (by omega)
      rw [h, y, ← b, show z + k * (F.r.length : Int) + F.high - F.high = z + k * F.r.length by omega, cyc_per.at, e1, cyc_per.at] at x
      exact x.symm
    have l : F.l = G.l := cyc_ext (by omega) fun z => by
      obtain ⟨k, hk⟩ := big_mul (p := F.l.length) (by omega) (max z 0 + 1)
      have x := F.mem_dn (n := z - k * F.l.length + F.low) (by omega)
      have y := G.mem_dn (n := z - k * F.l.length + F.low) (by omega)
      have s1 := cyc_per (l := F.l) |>.at (z - k * F.l.length) k
      have s2 := cyc_per (l := G.l) |>.at (z - k * G.l.length) k
      rw [show z - k * (F.l.length : Int) + k * F.l.length = z by omega] at s1
      rw [show z - k * (G.l.length : Int) + k * G.l.length = z by omega] at s2
      rw [h, y, ← a, show z - k * (F.l.length : Int) + F.low - F.low = z - k * F.l.length by omega] at x
      rw [s1, s2, ← x, e2]
    have ml : F.m.length = G.m.length := by
      have p := b
      unfold Frm.high at p
      omega
    have m : F.m = G.m := getD_ext ml fun i hi => by
      have p : F.high = F.low + F.m.length := rfl
      have p' : G.high = G.low + G.m.length := rfl
      have x := F.mem_mid (n := F.low + i) (by omega) (by omega)
      have y := G.mem_mid (n := F.low + i) (by omega) (by omega)
      rw [h, y, ← a, show (F.low + (i : Int) - F.low).toNat = i by omega] at x
      exact x.symm
    cases F
    cases G
    simp only at a r l m
    subst a
    subst r
    subst l
    subst m
    rfl
  by_cases pF : F.m = [] ∧ F.l = F.r ∧ F.low = 0
  · have aF := L.all_per pF
    by_cases pG : G.m = [] ∧ G.l = G.r ∧ G.low = 0
    · refine rows (by rw [pF.2.2, pG.2.2]) ?_
      unfold Frm.high
      rw [pF.2.2, pG.2.2, pF.1, pG.1]
    · exfalso
      refine M.odd pG ?_
      rw [← h, ← h, aF, aF, ← e1, cyc_per]
  · by_cases pG : G.m = [] ∧ G.l = G.r ∧ G.low = 0
    · exfalso
      refine L.odd pF ?_
      rw [h, h, M.all_per pG, M.all_per pG, e1, cyc_per]
    · have oF := L.odd pF
      have oG := M.odd pG
      have hh : F.high = G.high := by
        rcases Int.lt_trichotomy F.high G.high with z | z | z
        · exfalso
          refine oG ?_
          have := L.up_high (G.high - 1) (by omega)
          rw [h, h, e1] at this
          exact this.symm
        · exact z
        · exfalso
          refine oF ?_
          have := M.up_high (F.high - 1) (by omega)
          rw [← h, ← h, ← e1] at this
          exact this.symm
      refine rows ?_ hh
      have nF := F.low_high
      have nG := G.low_high
      have mF : ∀ {F : Frm}, F.m ≠ [] → F.low < F.high := fun {F} z => by
        have := prim_len z
        unfold Frm.high
        omega
      have mF0 : ∀ {F : Frm}, F.m = [] → F.low = F.high := fun {F} z => by
        unfold Frm.high
        rw [z]
        simp
      have cmp : ∀ {F G : Frm}, (∀ n, F.mem n = G.mem n) → (F.l.length : Int) = G.l.length → F.mem F.low ≠ F.mem (F.low - F.l.length) → Least G → G.low ≤ F.low := fun {F G} h e o M => by
        rcases Int.lt_or_le F.low G.low with z | z
        · exfalso
          refine o ?_
          have := M.dn_low F.low z
          rw [← h, ← h, ← e] at this
          exact this.symm
        · exact z
      have bF : F.m = [] ∨ (F.m ≠ [] ∧ F.mem F.low ≠ F.mem (F.low - F.l.length)) := by
        rcases L.body with z | z | z
        · exact .inr ⟨z.1, z.2.2⟩
        · exact .inl z.1
        · exact .inl z.1
      have bG : G.m = [] ∨ (G.m ≠ [] ∧ G.mem G.low ≠ G.mem (G.low - G.l.length)) := by
        rcases M.body with z | z | z
        · exact .inr ⟨z.1, z.2.2⟩
        · exact .inl z.1
        · exact .inl z.1
      rcases bF with x | x
      · rcases bG with y | y
        · rw [mF0 x, mF0 y, hh]
        · have q := cmp (fun n => (h n).symm) e2.symm y.2 L
          have := mF y.1
          have := mF0 x
          omega
      · rcases bG with y | y
        · have q := cmp h e2 x.2 M
          have := mF x.1
          have := mF0 y
          omega
        · have q := cmp h e2 x.2 M
          have q' := cmp (fun n => (h n).symm) e2.symm y.2 L
          omega
end Day
end
section
set_option Elab.async false
namespace Day
/-- bounds of a least form from what comes again -/
theorem Least.high_le {F : Frm} (L : Least F) {p b : Int} (p0 : 0 < p) (hb : 0 ≤ b) (h : Up F.mem p b) : F.high ≤ b := by
  by_cases pF : F.m = [] ∧ F.l = F.r ∧ F.low = 0
  · unfold Frm.high
    rw [pF.1, pF.2.2]
    simpa using hb
  · have u := L.mono_up p0 h
    have o := L.odd pF
    rcases Int.lt_or_le b F.high with z | z
    · exact absurd (u (F.high - 1) (by omega)).symm o
    · exact z
theorem Least.low_ge {F : Frm} (L : Least F) {p b : Int} (p0 : 0 < p) (hb : b ≤ 0) (h : Dn F.mem p b) : b - F.l.length - F.r.length ≤ F.low := by
  have d := L.mono_dn p0 h
  have ll := prim_len L.l0
  have lr := prim_len L.r0
  by_cases pF : F.m = [] ∧ F.l = F.r ∧ F.low = 0
  · omega
  · rcases Int.lt_or_le F.low (b - F.l.length - F.r.length) with z | z
    · exfalso
      have hlh := F.low_high
      rcases L.body with y | y | y
      · -- a middle: the day low is odd
        refine y.2.2 ?_
        exact (d F.low (by omega)).symm
      · exact pF y
      · have e : F.high = F.low := by unfold Frm.high; rw [y.1]; simp
        refine y.2 ?_
        have h1 := d (F.high - 1 + F.l.length) (by omega)
        have h2 := F.up (n := F.high - 1 + F.l.length) (by omega)
        have h3 := d (F.high - 1 + F.r.length + F.l.length) (by omega)
        rw [show F.high - 1 + (F.l.length : Int) - F.l.length = F.high - 1 by omega] at h1
        rw [show F.high - 1 + (F.r.length : Int) + F.l.length - F.l.length = F.high - 1 + F.r.length by omega] at h3
        rw [h1, h3, ← h2]
        congr 1
        omega
    · exact z
theorem le_of_dvd {p q : Int} (h0 : 0 < p) (hq : 0 ≤ q) (h : p % q = 0) : q ≤ p := by
  rcases Int.lt_or_le p q with z | z
  · rw [Int.emod_eq_of_lt (by omega) z] at h
    omega
  · exact z
/-- f comes again after p days from b days off 0 on -/
def Fit (f : Int → Bool) (p b : Int) : Prop := Up f p b ∧ Dn f p (-b)
theorem Fit.form {F : Frm} (L : Least F) {p b : Int} (p0 : 0 < p) (hb : 0 ≤ b) (h : Fit F.mem p b) :
    (F.l.length : Int) ≤ p ∧ (F.r.length : Int) ≤ p ∧ p % F.l.length = 0 ∧ p % F.r.length = 0 ∧ F.high ≤ b ∧ -b - 2 * p ≤ F.low := by
  have h1 := L.l_le p0 h.2
  have h2 := L.r_le p0 h.1
  have h3 := L.low_ge p0 (by omega) h.2
  exact ⟨h1, h2, L.l_dvd h.2, L.r_dvd h.1, L.high_le p0 hb h.1, by omega⟩
/-! ### least_form, stage by stage -/
theorem root_pre {l s : List Bool} (h : l ≠ []) (hs : s ≠ []) (e : ∀ z, cyc s z = cyc l z) (p : Prim s) : s ≠ [] ∧ Prim s ∧ ∀ z, cyc s z = cyc l z := ⟨hs, p, e⟩
/-- a row's root -/
structure IsRoot (l s : List Bool) : Prop where
  ne : s ≠ []
  pr : Prim s
  eq : ∀ z, cyc s z = cyc l z
theorem isRoot_self {l : List Bool} (h : l ≠ []) (hb : ∀ t, 1 ≤ t → t < l.length → ¬ Root l t) : IsRoot l l := ⟨h, root_none h hb, fun _ => rfl⟩
theorem isRoot_take {l : List Bool} {s : Nat} (h0 : 1 ≤ s) (hs : s < l.length) (h : Root l s) (hb : ∀ t, 1 ≤ t → t < s → ¬ Root l t) : IsRoot l (l.take s) :=
  ⟨fun e => by have : (l.take s).length = s := by rw [List.length_take]; omega
               rw [e] at this; simp at this; omega, root_some h0 hs h hb, fun z => h.cyc h0 (by omega) z⟩
/-- the right side begins j days earlier -/
theorem mem_back {l m r : List Bool} {low : Int} (r0 : r ≠ []) {j : Nat} (hj : j ≤ m.length) (h : ∀ i, i < j → m.getD (m.length - 1 - i) false = cyc r (-1 - (i : Int))) (n : Int) :
    (Frm.mk l low (m.take (m.length - j)) (turn r (-(j : Int)))).mem n = (Frm.mk l low m r).mem n := by
  have hl : (m.take (m.length - j)).length = m.length - j := by rw [List.length_take]; omega
  have hh : (Frm.mk l low (m.take (m.length - j)) (turn r (-(j : Int)))).high = low + m.length - j := by unfold Frm.high; simp only [hl]; omega
  have hh' : (Frm.mk l low m r).high = low + m.length := rfl
  rcases Int.lt_or_le n low with q | q
  · rw [Frm.mem_dn _ (by exact q), Frm.mem_dn _ (by exact q)]
  · rcases Int.lt_or_le n (low + m.length - j) with q2 | q2
    · rw [Frm.mem_mid _ (by exact q) (by rw [hh]; exact q2), Frm.mem_mid _ (by exact q) (by rw [hh']; omega)]
      exact take_getD _ (by show (n - low).toNat < _; omega)
    · rw [Frm.mem_up _ (by rw [hh]; exact q2), hh]
      show cyc (turn r _) _ = _
      rw [turn_cyc r0]
      rcases Int.lt_or_le n (low + m.length) with q3 | q3
      · rw [Frm.mem_mid _ (by exact q) (by rw [hh']; exact q3)]
        have := h (low + m.length - 1 - n).toNat (by omega)
        show _ = m.getD (n - low).toNat false
        rw [show (n - low).toNat = m.length - 1 - (low + m.length - 1 - n).toNat by omega, this]
        congr 1
        omega
      · rw [Frm.mem_up _ (by rw [hh']; exact q3), hh']
        show cyc r _ = cyc r _
        congr 1
        omega
/-- the left side ends j days later -/
theorem mem_fore {l m r : List Bool} {low : Int} (l0 : l ≠ []) {j : Nat} (hj : j ≤ m.length) (h : ∀ i, i < j → m.getD i false = cyc l (i : Int)) (n : Int) :
    (Frm.mk (turn l j) (low + j) (m.drop j) r).mem n = (Frm.mk l low m r).mem n := by
  have hh : (Frm.mk (turn l j) (low + j) (m.drop j) r).high = low + m.length := by
    unfold Frm.high
    simp only [List.length_drop]
    omega
  have hh' : (Frm.mk l low m r).high = low + m.length := rfl
  rcases Int.lt_or_le n (low + m.length) with q | q
  · rcases Int.lt_or_le n (low + j) with q2 | q2
    · rw [Frm.mem_dn _ (by exact q2)]
      show cyc (turn l j) _ = _
      rw [turn_cyc l0]
      rcases Int.lt_or_le n low with q3 | q3
      · rw [Frm.mem_dn _ (by exact q3)]
        show cyc l _ = cyc l _
        congr 1
        show n - (low + (j : Int)) + j = n - low
        omega
      · rw [Frm.mem_mid _ (by exact q3) (by rw [hh']; exact q)]
        show _ = m.getD (n - low).toNat false
        rw [h _ (show (n - low).toNat < j by omega)]
        congr 1
        show n - (low + (j : Int)) + j = ((n - low).toNat : Int)
        omega
    · rw [Frm.mem_mid _ (by exact q2) (by rw [hh]; exact q), Frm.mem_mid _ (by show low ≤ n; omega) (by rw [hh']; exact q)]
      show (m.drop j).getD (n - (low + j)).toNat false = m.getD (n - low).toNat false
      rw [List.getD_eq_getElem?_getD, List.getElem?_drop, ← List.getD_eq_getElem?_getD]
      congr 1
      omega
  · rw [Frm.mem_up _ (by rw [hh]; exact q), Frm.mem_up _ (by rw [hh']; exact q), hh, hh']
/-- both sides moved where there is no middle -/
theorem mem_bare {l r : List Bool} {low : Int} (l0 : l ≠ []) (r0 : r ≠ []) {j : Nat} (h : ∀ i, i < j → cyc l (-1 - (i : Int)) = cyc r (-1 - (i : Int))) (n : Int) :
    (Frm.mk (turn l (-(j : Int))) (low - j) [] (turn r (-(j : Int)))).mem n = (Frm.mk l low [] r).mem n := by
  have hh : (Frm.mk (turn l (-(j : Int))) (low - j) [] (turn r (-(j : Int)))).high = low - j := by unfold Frm.high; simp
  have hh' : (Frm.mk l low [] r).high = low := by unfold Frm.high; simp
  rcases Int.lt_or_le n (low - j) with q | q
  · rw [Frm.mem_dn _ (by exact q), Frm.mem_dn _ (by show n < low; omega)]
    show cyc (turn l _) _ = cyc l _
    rw [turn_cyc l0]
    congr 1
    show n - (low - (j : Int)) + -(j : Int) = n - low
    omega
  · rw [Frm.mem_up _ (by rw [hh]; exact q), hh]
    show cyc (turn r _) _ = _
    rw [turn_cyc r0]
    rcases Int.lt_or_le n low with q2 | q2
    · rw [Frm.mem_dn _ (by exact q2)]
      show _ = cyc l (n - low)
      have := h (low - 1 - n).toNat (by omega)
      rw [show -1 - (((low - 1 - n).toNat : Nat) : Int) = n - low by omega] at this
      rw [this]
      congr 1
      omega
    · rw [Frm.mem_up _ (by rw [hh']; exact q2), hh']
      show cyc r _ = cyc r _
      congr 1
      omega
/-- two least rows that are unlike part somewhere below -/
theorem bare_part {l r : List Bool} (l0 : l ≠ []) (r0 : r ≠ []) (pl : Prim l) (pr : Prim r) (h : l ≠ r) : ∃ i : Nat, i < l.length * r.length ∧ cyc l (-1 - (i : Int)) ≠ cyc r (-1 - (i : Int)) := by
  have ll := prim_len l0
  have lr := prim_len r0
  refine Classical.byContradiction fun no => h ?_
  have all : ∀ i : Nat, i < l.length * r.length → cyc l (-1 - (i : Int)) = cyc r (-1 - (i : Int)) := fun i hi => Classical.byContradiction fun q => no ⟨i, hi, q⟩
  have N0 : (0 : Int) < ((l.length * r.length : Nat) : Int) := by
    have := Nat.mul_pos ll lr
    omega
  have eqf : ∀ z : Int, cyc l z = cyc r z := fun z => by
    have m0 := Int.emod_nonneg (-1 - z) (show ((l.length * r.length : Nat) : Int) ≠ 0 by omega)
    have m1 := Int.emod_lt_of_pos (-1 - z) N0
    have e := all ((-1 - z) % ((l.length * r.length : Nat) : Int)).toNat (by omega)
    rw [Int.toNat_of_nonneg m0] at e
    have e2 : (-1 - z) % ((l.length * r.length : Nat) : Int) = -1 - z - (-1 - z) / ((l.length * r.length : Nat) : Int) * ((l.length * r.length : Nat) : Int) := by
      have := Int.mul_ediv_add_emod (-1 - z) ((l.length * r.length : Nat) : Int)
      rw [Int.mul_comm] at this
      omega
    generalize (-1 - z) / ((l.length * r.length : Nat) : Int) = K at e2
    have a1 : cyc l z = cyc l (z + K * r.length * l.length) := (cyc_per.at z (K * r.length)).symm
    have a2 : cyc r z = cyc r (z + K * l.length * r.length) := (cyc_per.at z (K * l.length)).symm
    have k1 : K * ((l.length * r.length : Nat) : Int) = K * r.length * l.length := by
      rw [Int.natCast_mul, Int.mul_assoc, Int.mul_comm (r.length : Int)]
    have k2 : K * ((l.length * r.length : Nat) : Int) = K * l.length * r.length := by
      rw [Int.natCast_mul, Int.mul_assoc]
    rw [e2] at e
    rw [a1, a2, ← k1, ← k2]
    rw [show -1 - (-1 - z - K * ((l.length * r.length : Nat) : Int)) = z + K * ((l.length * r.length : Nat) : Int) by omega] at e
    exact e
  have hf : cyc l = cyc r := funext eqf
  refine cyc_ext ?_ eqf
  have a := pl r.length (by omega) (by rw [hf]; exact cyc_per)
  have b := pr l.length (by omega) (by rw [← hf]; exact cyc_per)
  omega
/-- what least_form gives, by its ways -/
theorem least_bare_all {r : List Bool} (low : Int) (r0 : r ≠ []) (pr : Prim r) :
    Least ⟨turn r (-low), 0, [], turn r (-low)⟩ ∧ ∀ n, (Frm.mk (turn r (-low)) 0 [] (turn r (-low))).mem n = (Frm.mk r low [] r).mem n := by
  refine ⟨⟨turn_ne r0, turn_ne r0, turn_prim r0 _ pr, turn_prim r0 _ pr, .inr (.inl ⟨rfl, rfl, rfl⟩)⟩, fun n => ?_⟩
  have hh : (Frm.mk (turn r (-low)) 0 [] (turn r (-low))).high = 0 := by unfold Frm.high; simp
  have hh' : (Frm.mk r low [] r).high = low := by unfold Frm.high; simp
  have e1 : (Frm.mk (turn r (-low)) 0 [] (turn r (-low))).mem n = cyc r (n - low) := by
    rcases Int.lt_or_le n 0 with q | q
    · rw [Frm.mem_dn _ (by exact q)]
      show cyc (turn r _) _ = _
      rw [turn_cyc r0]
      congr 1
      show n - 0 + -low = n - low
      omega
    · rw [Frm.mem_up _ (by rw [hh]; exact q), hh]
      show cyc (turn r _) _ = _
      rw [turn_cyc r0]
      congr 1
      omega
  rw [e1]
  rcases Int.lt_or_le n low with q | q
  · rw [Frm.mem_dn _ (by exact q)]
  · rw [Frm.mem_up _ (by rw [hh']; exact q), hh']
theorem least_bare {l r : List Bool} (low : Int) (l0 : l ≠ []) (r0 : r ≠ []) (pl : Prim l) (pr : Prim r) {j : Nat}
    (h : ∀ i, i < j → cyc l (-1 - (i : Int)) = cyc r (-1 - (i : Int))) (hj : cyc l (-1 - (j : Int)) ≠ cyc r (-1 - (j : Int))) :
    Least ⟨turn l (-(j : Int)), low - j, [], turn r (-(j : Int))⟩ ∧ ∀ n, (Frm.mk (turn l (-(j : Int))) (low - j) [] (turn r (-(j : Int)))).mem n = (Frm.mk l low [] r).mem n := by
  refine ⟨⟨turn_ne l0, turn_ne r0, turn_prim l0 _ pl, turn_prim r0 _ pr, .inr (.inr ⟨rfl, ?_⟩)⟩, mem_bare l0 r0 h⟩
  have hh : (Frm.mk (turn l (-(j : Int))) (low - j) [] (turn r (-(j : Int)))).high = low - j := by unfold Frm.high; simp
  have lr := prim_len r0
  rw [Frm.mem_dn _ (show _ < low - (j : Int) by rw [hh]; omega), Frm.mem_up _ (by rw [hh]; show _ ≤ low - j - 1 + ((turn r _).length : Int); rw [turn_len]; omega), hh]
  show cyc (turn l _) _ ≠ cyc (turn r _) _
  rw [turn_cyc l0, turn_cyc r0, turn_len]
  show cyc l (low - j - 1 - (low - j) + -(j : Int)) ≠ cyc r (low - j - 1 + r.length - (low - j) + -(j : Int))
  rw [show low - (j : Int) - 1 - (low - j) + -(j : Int) = -1 - j by omega, show low - (j : Int) - 1 + r.length - (low - j) + -(j : Int) = -1 - j + r.length by omega, cyc_per]
  exact hj
/-- with a middle whose last day is odd -/
theorem least_mid {l m r : List Bool} (low : Int) (l0 : l ≠ []) (r0 : r ≠ []) (pl : Prim l) (pr : Prim r) (m0 : m ≠ []) (hr : m.getD (m.length - 1) false ≠ cyc r (-1)) {j : Nat} (hj : j ≤ m.length)
    (h : ∀ i, i < j → m.getD i false = cyc l (i : Int)) (he : j = m.length ∨ m.getD j false ≠ cyc l (j : Int)) :
    Least ⟨turn l j, low + j, m.drop j, r⟩ ∧ ∀ n, (Frm.mk (turn l j) (low + j) (m.drop j) r).mem n = (Frm.mk l low m r).mem n := by
  have lm := prim_len m0
  have lr := prim_len r0
  have ll := prim_len l0
  have hm := mem_fore (low := low) (r := r) l0 hj h
  have hh : (Frm.mk (turn l j) (low + j) (m.drop j) r).high = low + m.length := by
    unfold Frm.high
    simp only [List.length_drop]
    omega
  have hh' : (Frm.mk l low m r).high = low + m.length := rfl
  have odd : (Frm.mk (turn l j) (low + j) (m.drop j) r).mem (low + m.length - 1) ≠ (Frm.mk (turn l j) (low + j) (m.drop j) r).mem (low + m.length - 1 + r.length) := by
    rw [hm, hm, Frm.mem_mid _ (show low ≤ _ by omega) (by rw [hh']; omega), Frm.mem_up _ (by rw [hh']; omega), hh']
    show m.getD (low + m.length - 1 - low).toNat false ≠ cyc r _
    rw [show (low + (m.length : Int) - 1 - low).toNat = m.length - 1 by omega, show low + (m.length : Int) - 1 + r.length - (low + m.length) = -1 + r.length by omega, cyc_per]
    exact hr
  refine ⟨⟨turn_ne l0, r0, turn_prim l0 _ pl, pr, ?_⟩, hm⟩
  rw [hh]
  by_cases q : j = m.length
  · refine .inr (.inr ⟨?_, odd⟩)
    show m.drop j = []
    rw [q]
    exact List.drop_length
  · refine .inl ⟨fun e => ?_, odd, ?_⟩
    · have : (m.drop j).length = 0 := by rw [show m.drop j = [] from e]; rfl
      rw [List.length_drop] at this
      omega
    · have hne := he.resolve_left q
      rw [hm, hm]
      show (Frm.mk l low m r).mem (low + j) ≠ (Frm.mk l low m r).mem (low + j - ((turn l j).length : Int))
      rw [turn_len, Frm.mem_mid _ (show low ≤ _ by omega) (by rw [hh']; omega)]
      show m.getD (low + j - low).toNat false ≠ _
      rw [show (low + (j : Int) - low).toNat = j by omega]
      have e2 : (Frm.mk l low m r).mem (low + j - (l.length : Int)) = cyc l j := by
        rcases Int.lt_or_le (low + j - (l.length : Int)) low with z | z
        · rw [Frm.mem_dn _ (by exact z)]
          show cyc l (low + j - l.length - low) = _
          have := cyc_per (l := l) (low + j - l.length - low)
          rw [← this]
          congr 1
          omega
        · rw [Frm.mem_mid _ (by exact z) (by rw [hh']; omega)]
          show m.getD (low + j - l.length - low).toNat false = _
          rw [h _ (show (low + (j : Int) - l.length - low).toNat < j by omega)]
          have := cyc_per (l := l) ((low + (j : Int) - l.length - low).toNat : Int)
          rw [← this]
          congr 1
          omega
      rw [e2]
      exact hne
/-- a form from a window of a function's signs -/
theorem form_of {f : Int → Bool} {row : List Bool} {low : Int} {a b : Nat} (a0 : 0 < a) (b0 : 0 < b) (hl : a + b ≤ row.length) (h : ∀ i, i < row.length → row.getD i false = f (low - a + i))
    (hu : Up f b (low + (row.length - a - b : Nat))) (hd : Dn f a low) (n : Int) : (Frm.mk (row.take a) low ((row.drop a).take (row.length - a - b)) (row.drop (row.length - b))).mem n = f n := by
  have l1 : (row.take a).length = a := by rw [List.length_take]; omega
  have l2 : ((row.drop a).take (row.length - a - b)).length = row.length - a - b := by rw [List.length_take, List.length_drop]; omega
  have l3 : (row.drop (row.length - b)).length = b := by rw [List.length_drop]; omega
  have hh : (Frm.mk (row.take a) low ((row.drop a).take (row.length - a - b)) (row.drop (row.length - b))).high = low + (row.length - a - b : Nat) := by unfold Frm.high; simp only [l2]
  rcases Int.lt_or_le n low with q | q
  · rw [Frm.mem_dn _ (by exact q)]
    show cyc (row.take a) (n - low) = f n
    have m0 := Int.emod_nonneg (n - low) (show (a : Int) ≠ 0 by omega)
    have m1 := Int.emod_lt_of_pos (n - low) (show (0 : Int) < a by omega)
    have e1 : cyc (row.take a) (n - low) = row.getD ((n - low) % (a : Int)).toNat false := by
      unfold cyc
      rw [l1]
      exact take_getD _ (by omega)
    rw [e1, h _ (by omega), Int.toNat_of_nonneg m0]
    have e2 := Int.mul_ediv_add_emod (n - low) (a : Int)
    have e3 : 0 ≤ -((n - low) / (a : Int)) - 1 := by
      have := Int.ediv_neg_of_neg_of_pos (show n - low < 0 by omega) (show (0 : Int) < a by omega)
      omega
    have e4 := hd.nat (by omega) (-((n - low) / (a : Int)) - 1).toNat (low - a + (n - low) % (a : Int)) (by omega)
    rw [← e4, Int.toNat_of_nonneg e3]
    congr 1
    rw [Int.sub_mul, Int.neg_mul, Int.mul_comm ((n - low) / (a : Int))]
    omega
  · rcases Int.lt_or_le n (low + (row.length - a - b : Nat)) with q2 | q2
    · rw [Frm.mem_mid _ (by exact q) (by rw [hh]; exact q2)]
      show ((row.drop a).take (row.length - a - b)).getD (n - low).toNat false = f n
      rw [take_getD _ (by omega), List.getD_eq_getElem?_getD, List.getElem?_drop, ← List.getD_eq_getElem?_getD, h _ (by omega)]
      congr 1
      omega
    · rw [Frm.mem_up _ (by rw [hh]; exact q2), hh]
      show cyc (row.drop (row.length - b)) (n - (low + (row.length - a - b : Nat))) = f n
      generalize hz : n - (low + ((row.length - a - b : Nat) : Int)) = z
      have m0 := Int.emod_nonneg z (show (b : Int) ≠ 0 by omega)
      have m1 := Int.emod_lt_of_pos z (show (0 : Int) < b by omega)
      have e1 : cyc (row.drop (row.length - b)) z = row.getD (row.length - b + (z % (b : Int)).toNat) false := by
        unfold cyc
        rw [l3, List.getD_eq_getElem?_getD, List.getElem?_drop, ← List.getD_eq_getElem?_getD]
      rw [e1, h _ (by omega)]
      have e2 := Int.mul_ediv_add_emod z (b : Int)
      have e3 : 0 ≤ z / (b : Int) := Int.ediv_nonneg (by omega) (by omega)
      have e4 := hu.nat (by omega) (z / (b : Int)).toNat (low - a + ((row.length - b + (z % (b : Int)).toNat : Nat) : Int)) (by omega)
      rw [← e4, Int.toNat_of_nonneg e3]
      congr 1
      rw [Int.mul_comm (z / (b : Int))]
      omega
end Day
end
section
set_option Elab.async false
set_option linter.all false
set_option maxRecDepth 100000
set_option maxHeartbeats 2000000
/-! own operators, texts, classmethods: rules that the hand layer lacks -/
namespace Od
open PySem PySem.Spec PyProof.Rows L2
section
variable {X : Cx} {pins : List (Addr × Obj)} {σ : L2.St} {H : Hp} {s : Shared} {CX : CXT} {k : Nat} {f C : Addr} {sp : Sp} {E : XK} {Q : VK} {us : List Value} {vs : List V} {A : Around}
theorem vr1 (a : Addr) : Vals [V.ref a] [Value.ref a] := .cons rfl .nil
theorem vr2 (a b : Addr) : Vals [V.ref a, V.ref b] [Value.ref a, Value.ref b] := .cons rfl (.cons rfl .nil)
theorem vrx {x : V} {v : Value} (a : Addr) (r : RelV x v) : Vals [V.ref a, x] [Value.ref a, v] := .cons rfl (.cons r .nil)
theorem rvi (n : Int) (t : Tok) : RelV (.int n) (Value.int n t) := ⟨t, rfl⟩
/-- a def called somewhere below the running body -/
theorem fn_at (hA : A.frames = X.A.frames) (hr : Room k A) (F : FnR X.prog X.w X.K X.mg X.base CX k f sp) (hx : Passes CX X E) (I : Inv X pins σ H s) (r : Vals vs us) (h : sp vs H Q E) :
    wpAny (model X.prog X.w) A (call (.ref f) us) (EP X pins σ Q) X.xe s := by
  have e := I.env0
  have e0 : Env0 X.prog X.w X.K X.mg X.base A X.stack s H := ⟨by rw [hA]; exact e.frames, e.mod, e.bs, e.bsz, e.funs, e.frf, e.hok, e.bare⟩
  refine wpAny_call (codeAny_mono (F A X.stack s H us vs Q E hr e0 r h) fun r s' hq => ?_)
  cases r with
  | error e => exact hx pins σ H s e s' I hq
  | ok fl =>
    cases fl with
    | ret u => exact I.after hq
    | next => exact False.elim hq
    | brk => exact False.elim hq
    | cont => exact False.elim hq
theorem cmp_back {u : Value} {s' : Shared} (h : EP X pins σ Q u s') : PySem.W.CmpBack (EP X pins σ Q) u s' := by
  obtain ⟨v, H', I, r, q⟩ := id h
  cases v with
  | non => cases r; exact h
  | bl b => cases r; exact h
  | int i => obtain ⟨t, rfl⟩ := r; exact h
  | str x => obtain ⟨t, rfl⟩ := r; exact h
  | byt b => obtain ⟨t, rfl⟩ := r; exact h
  | flt b => obtain ⟨t, rfl⟩ := r; exact h
  | ref a => cases r; exact h
  | ty n => cases r; exact h
theorem inst_of {a dx : Addr} {fs : List (Str × V)} (I : Inv X pins σ H s) (h : H a = some (.ins C dx fs)) : ∃ od, PySem.W.InstAt s.heap a (PySem.W.instObj C dx) C (some od) := by
  obtain ⟨mA, J, _⟩ := ins_get I.hok h
  obtain ⟨od, J, _⟩ := J.look
  exact ⟨od, J⟩
/-- what the text says of a special method: class C, name nm, def f -/
structure Sm (K : PySem.W.Frag) (C : Addr) (nm : Str) (f : Addr) : Prop where
  at_ : PySem.W.findIn K (.ref C) nm = some (some (.ref f))
  fn : PySem.W.isFn K (.ref f) = true
/-- x op y, both instances of C -/
def rOwn (C : Addr) (sp : Sp) (E : XK) : R2 := fun x y H Q => ∃ a b dx dy fs gs, x = .ref a ∧ y = .ref b ∧ H a = some (.ins C dx fs) ∧ H b = some (.ins C dy gs) ∧ sp [.ref a, .ref b] H Q E
theorem op_own {op : Operator} (hc : PySem.W.selfFirst X.K C = true) (S : Sm X.K C (PySem.dunder op.info.2) f) (F : FnR X.prog X.w X.K X.mg X.base CX k f sp) (hr : Room k X.A) (hx : Passes CX X E) : OpR X (binaryOp op) (rOwn C sp E) := by
  intro pins s σ H x y v u Q I rx ry h
  obtain ⟨a, b, dx, dy, fs, gs, rfl, rfl, ha, hb, q⟩ := h
  cases rx
  cases ry
  obtain ⟨od, J⟩ := inst_of I ha
  obtain ⟨od', J'⟩ := inst_of I hb
  obtain ⟨m, hF⟩ := I.fr
  exact PySem.W.binop_K hF I.ok.mod.kin J J'.type hc S.at_ S.fn (wpAny_mono (fn_at rfl hr F hx I (vr2 a b) q) (fun w s' z => cmp_back z) fun _ _ z => z)
/-- x op n, x an instance of C, n an int -/
def rOwnI (C : Addr) (sp : Sp) (E : XK) : R2 := fun x y H Q => ∃ a n dx fs, x = .ref a ∧ y = .int n ∧ H a = some (.ins C dx fs) ∧ sp [.ref a, .int n] H Q E
theorem op_ownI {op : Operator} {fo ro : Option Value} (hc : PySem.W.selfFirst X.K C = true) (S : Sm X.K C (PySem.dunder op.info.2) f) (hR : PySem.W.findIn X.K (.ref C) (dunderR op.info.2) = some none)
    (h1 : PySem.W.findIn X.K (.type "int") (PySem.dunder op.info.2) = some fo) (h2 : PySem.W.findIn X.K (.type "int") (dunderR op.info.2) = some ro) (hU : PySem.W.subIn X.K (.type "int") (.ref C) = some false)
    (F : FnR X.prog X.w X.K X.mg X.base CX k f sp) (hr : Room k X.A) (hx : Passes CX X E) : OpR X (binaryOp op) (rOwnI C sp E) := by
  intro pins s σ H x y v u Q I rx ry h
  obtain ⟨a, n, dx, fs, rfl, rfl, ha, q⟩ := h
  cases rx
  obtain ⟨t, rfl⟩ := ry
  obtain ⟨od, J⟩ := inst_of I ha
  obtain ⟨m, hF⟩ := I.fr
  exact PySem.W.ksp_binT (T := "int") hF I.ok.mod.kin J rfl hc S.at_ S.fn hR (.inl rfl) h1 h2 hU (wpAny_mono (fn_at rfl hr F hx I (vrx a (rvi n t)) q) (fun w s' z => cmp_back z) fun _ _ z => z)
/-- op x -/
def rOwnU (C : Addr) (sp : Sp) (E : XK) : V → Hp → VK → Prop := fun x H Q => ∃ a dx fs, x = .ref a ∧ H a = some (.ins C dx fs) ∧ sp [.ref a] H Q E
theorem un_ownNeg (S : Sm X.K C "__neg__" f) (F : FnR X.prog X.w X.K X.mg X.base CX k f sp) (hr : Room k X.A) (hx : Passes CX X E) : UnR X (unaryOp .USub) (rOwnU C sp E) := by
  intro pins s σ H x v Q I rx h
  obtain ⟨a, dx, fs, rfl, ha, q⟩ := h
  cases rx
  obtain ⟨od, J⟩ := inst_of I ha
  obtain ⟨m, hF⟩ := I.fr
  exact PySem.W.ksp_neg hF I.ok.mod.kin J S.at_ S.fn (fn_at rfl hr F hx I (vr1 a) q)
theorem un_ownInv (S : Sm X.K C "__invert__" f) (F : FnR X.prog X.w X.K X.mg X.base CX k f sp) (hr : Room k X.A) (hx : Passes CX X E) : UnR X (unaryOp .Invert) (rOwnU C sp E) := by
  intro pins s σ H x v Q I rx h
  obtain ⟨a, dx, fs, rfl, ha, q⟩ := h
  cases rx
  obtain ⟨od, J⟩ := inst_of I ha
  obtain ⟨m, hF⟩ := I.fr
  exact PySem.W.ksp_inv hF I.ok.mod.kin J S.at_ S.fn (fn_at rfl hr F hx I (vr1 a) q)
/-- x == y, x <= y ..: any value back -/
theorem op_ownCmp {op : CmpOp} (hop : ∀ v u, compareOp op v u = richCompare op v u) (S : Sm X.K C (cmpInfo op).2.1 f) (F : FnR X.prog X.w X.K X.mg X.base CX k f sp) (hr : Room k X.A) (hx : Passes CX X E) : OpR X (compareOp op) (rOwn C sp E) := by
  intro pins s σ H x y v u Q I rx ry h
  obtain ⟨a, b, dx, dy, fs, gs, rfl, rfl, ha, hb, q⟩ := h
  cases rx
  cases ry
  obtain ⟨od, J⟩ := inst_of I ha
  obtain ⟨od', J'⟩ := inst_of I hb
  obtain ⟨m, hF⟩ := I.fr
  rw [hop]
  exact PySem.W.cmp_K (tb := .ref C) hr.units0 hF I.ok.mod.kin J J'.type (by simp [PySem.W.notFirst]) S.at_ S.fn (wpAny_mono (fn_at rfl hr F hx I (vr2 a b) q) (fun w s' z => cmp_back z) fun _ _ z => z)
/-- x in y, y an instance of C with __contains__ that gives a bool -/
def rOwnIn (C : Addr) (sp : Sp) (E : XK) (neg : Bool) : R2 := fun x y H Q => ∃ a dx fs, y = .ref a ∧ H a = some (.ins C dx fs) ∧ sp [.ref a, x] H (fun r H' => ∃ b, r = .bl b ∧ Q (.bl (if neg then !b else b)) H') E
theorem op_ownIn (S : Sm X.K C "__contains__" f) (F : FnR X.prog X.w X.K X.mg X.base CX k f sp) (hr : Room k X.A) (hx : Passes CX X E) : OpR X (compareOp .In) (rOwnIn C sp E false) := by
  intro pins s σ H x y v u Q I rx ry h
  obtain ⟨a, dx, fs, rfl, ha, q⟩ := h
  cases ry
  obtain ⟨od, J⟩ := inst_of I ha
  obtain ⟨m, hF⟩ := I.fr
  refine PySem.W.in_K hF I.ok.mod.kin J S.at_ S.fn (wpAny_mono (fn_at rfl hr F hx I (vrx a rx) q) (fun w s' z => ?_) fun _ _ z => z)
  obtain ⟨v', H', I', r', b, rfl, q'⟩ := z
  cases r'
  exact wpAny_truthy_bool ⟨V.bl b, H', I', rfl, q'⟩
theorem op_ownNotIn (S : Sm X.K C "__contains__" f) (F : FnR X.prog X.w X.K X.mg X.base CX k f sp) (hr : Room k X.A) (hx : Passes CX X E) : OpR X (compareOp .NotIn) (rOwnIn C sp E true) := by
  intro pins s σ H x y v u Q I rx ry h
  obtain ⟨a, dx, fs, rfl, ha, q⟩ := h
  cases ry
  obtain ⟨od, J⟩ := inst_of I ha
  obtain ⟨m, hF⟩ := I.fr
  refine PySem.W.notIn_K hF I.ok.mod.kin J S.at_ S.fn (wpAny_mono (fn_at rfl hr F hx I (vrx a rx) q) (fun w s' z => ?_) fun _ _ z => z)
  obtain ⟨v', H', I', r', b, rfl, q'⟩ := z
  cases r'
  exact wpAny_truthy_bool ⟨V.bl (!b), H', I', rfl, q'⟩
/-- the truth of an instance by __bool__ -/
def rTru (C : Addr) (sp : Sp) (E : XK) : V → Hp → (Bool → Hp → Prop) → Prop := fun x H Q => ∃ a dx fs, x = .ref a ∧ H a = some (.ins C dx fs) ∧ sp [.ref a] H (fun r H' => ∃ b, r = .bl b ∧ Q b H') E
theorem tru_own (S : Sm X.K C "__bool__" f) (F : FnR X.prog X.w X.K X.mg X.base CX k f sp) (hr : Room k X.A) (hx : Passes CX X E) : TruR X (rTru C sp E) := by
  intro pins s σ H x v Q I rx h
  obtain ⟨a, dx, fs, rfl, ha, q⟩ := h
  cases rx
  obtain ⟨od, J⟩ := inst_of I ha
  obtain ⟨m, hF⟩ := I.fr
  refine PySem.W.truthy_K hF I.ok.mod.kin J S.at_ S.fn (wpAny_mono (fn_at rfl hr F hx I (vr1 a) q) (fun w s' z => ?_) fun _ _ z => z)
  obtain ⟨v', H', I', r', b, rfl, q'⟩ := z
  cases r'
  exact ⟨H', I', q'⟩
/-- str(x) by __str__ -/
theorem Room.in2 {A : Around} (r : Room (k + 1) A) : Room k A.in1.in1 :=
  ⟨r.hd, by have := r.dp; show A.depth + 3 * k + 5 < _; omega, by have := r.un; show A.units + 1 + 1 + 16 * k + 200 < _; omega⟩
def rStr (C : Addr) (sp : Sp) (E : XK) : List V → Hp → VK → Prop := fun xs H Q => ∃ a dx fs, xs = [.ref a] ∧ H a = some (.ins C dx fs) ∧ sp [.ref a] H (fun r H' => ∃ z, r = .str z ∧ Q (.str z) H') E
theorem call_str_own (S : Sm X.K C "__str__" f) (F : FnR X.prog X.w X.K X.mg X.base CX k f sp) (hr : Room (k + 1) X.A) (hx : Passes CX X E) : CallR X (.type "str") (rStr C sp E) := by
  intro pins s σ H xs us Q I r h
  obtain ⟨a, dx, fs, rfl, ha, q⟩ := h
  cases r.ref1
  obtain ⟨od, J⟩ := inst_of I ha
  have hr2 := Room.in2 hr
  refine PySem.W.kso_call hr2.units0 I.kIn J S.at_ S.fn (wpAny_mono (fn_at (A := X.A.in1.in1) rfl hr2 F hx I (vr1 a) q) (fun w s' z => ?_) fun _ _ z => z)
  obtain ⟨v', H', I', r', b, rfl, q'⟩ := z
  obtain ⟨t, rfl⟩ := r'
  exact ⟨V.str b, H', I', ⟨t, rfl⟩, q'⟩
/-- x != y by the inherited __ne__, over an own __eq__ that gives a bool -/
def rOwnNe (C : Addr) (sp : Sp) (E : XK) : R2 := fun x y H Q => ∃ a b dx dy fs gs, x = .ref a ∧ y = .ref b ∧ H a = some (.ins C dx fs) ∧ H b = some (.ins C dy gs) ∧ sp [.ref a, .ref b] H (fun r H' => ∃ e, r = .bl e ∧ Q (.bl (!e)) H') E
theorem ne_lookup {K : PySem.W.Frag} {C : Addr} (h : PySem.W.findIn K (.ref C) "__ne__" = some (some (.builtin "object.__ne__"))) : PySem.W.findIn K (.ref C) "__ne__" = some (some (.builtin "object.__ne__")) := h
theorem slot_ne : Slot "object" "__ne__" "object.__ne__" :=
  .of (owner := "object") (n := "__ne__") (by rw [typeLookup_type, builtinLookup_eq_fast]; kernel_rfl) (by decide +kernel) (by decide +kernel) (by decide +kernel)
    (by first | exact .inl (by decide +kernel) | exact .inr (by decide +kernel)) (by rw [isSubtype_type]; kernel_rfl)
theorem ifBound_ne {M : Model} {A : Around} {E : Value → Shared → Prop} {s : Shared} {K : PySem.W.Frag} {x C : Addr} {ox : Obj} {od : Option Obj} {args : List Value} {Q : Option Value → Shared → Prop} (X : K.In s.heap) (I : PySem.W.InstAt s.heap x ox C od)
    (hs : PySem.W.findIn K (.ref C) "__ne__" = some (some (.builtin "object.__ne__")))
    (h : wpAny M A (call (.builtin "object.__ne__") (.ref x :: args)) (fun v => Q (some v)) E s) : wpAny M A (callSpecialIfBound? (.ref x) "__ne__" args) Q E s := by
  simp only [callSpecialIfBound?, bindSpecialIfBound?]
  refine wpAny_holding (wpAny_bind (wpAny_bind (wpAny_bind (I.type.here ((PySem.W.looks_findIn X hs).here ?_)))))
  refine wpAny_bind (wpAny_askSetting (wpAny_ite ?_))
  have fin : wpAny M A (call (.builtin "object.__ne__") ([.ref x] ++ args) >>= fun v => pure (some v)) Q E s := wpAny_bind (wpAny_mono h (fun v s' h' => wpAny_pure h') fun _ _ h' => h')
  have hb := slot_ne.bind (.ref x)
  split
  · refine wpAny_bind (wpAny_of_eq hb (wpAny_pure (by exact fin)))
  · refine wpAny_tryCatch (wpAny_bind (wpAny_of_eq hb (wpAny_pure (by exact fin))))
theorem op_ownNe (S : Sm X.K C "__eq__" f) (N : PySem.W.findIn X.K (.ref C) "__ne__" = some (some (.builtin "object.__ne__"))) (O : PySem.W.mroIn X.K C (.type "object") = some true) (F : FnR X.prog X.w X.K X.mg X.base CX k f sp) (hr : Room (k + 1) X.A) (hx : Passes CX X E) :
    OpR X (compareOp .NotEq) (rOwnNe C sp E) := by
  intro pins s σ H x y v u Q I rx ry h
  obtain ⟨a, b, dx, dy, fs, gs, rfl, rfl, ha, hb, q⟩ := h
  cases rx
  cases ry
  obtain ⟨od, J⟩ := inst_of I ha
  obtain ⟨od', J'⟩ := inst_of I hb
  have hr1 := hr.in1
  show wpAny (model X.prog X.w) X.A (richCompare .NotEq (.ref a) (.ref b)) (EP X pins σ Q) X.xe s
  have one : wpAny (model X.prog X.w) X.A (tryCompare (.ref a) "__ne__" (.ref b)) (fun r s' => ∃ v, r = some v ∧ EP X pins σ Q v s') X.xe s := by
    unfold tryCompare
    refine wpAny_bind (ifBound_ne I.kIn J N ?_)
    refine wpAny_call (codeAny_call_builtin slot_ne.plain PySem.F.cmpEntry_ne (@PySem.W.check_slot (model X.prog X.w) _ _ s "object.__ne__" "object" "__ne__" (.ref a) [.ref b] [] _ PySem.F.cmpKind_ne PySem.F.cmpSplit_ne (J.type.andThen (PySem.W.looks_mroIn I.kIn O)) (PySem.F.cmpArgs_ne _ _) ?_))
    unfold Builtin.«object.__ne__»
    refine wpAny_bind (m := slotArgs "__ne__" 1 _) (wpAny_pure ?_)
    refine wpAny_bind (wpAny_cRoomFor hr1.units0 ?_)
    refine wpAny_bind (PySem.W.ifBound_K I.kIn J S.at_ S.fn (wpAny_mono (fn_at (A := X.A.in1) rfl hr1 F hx I (vr2 a b) q) (fun w s' z => ?_) fun _ _ z => z))
    obtain ⟨v', H', I', r', e, rfl, q'⟩ := z
    cases r'
    refine wpAny_bind (wpAny_truthy_bool (wpAny_pure ?_))
    exact wpAny_pure ⟨_, rfl, ⟨V.bl (!e), H', I', rfl, q'⟩⟩
  unfold richCompare
  simp only [oneThing_ref]
  refine wpAny_holding (wpAny_bind (wpAny_cRoomFor hr.units0 ?_))
  refine wpAny_bind (J.type.here (wpAny_bind (J'.type.here ?_)))
  rw [if_neg (by simp)]
  refine wpAny_bind (wpAny_pure ?_)
  simp only [Bool.false_eq_true, if_false]
  refine wpAny_bind (wpAny_mono one (fun r s' z => ?_) fun _ _ e => e)
  obtain ⟨v, rfl, hq⟩ := z
  exact wpAny_pure hq
/-! ### texts -/
/-- a text n times -/
theorem foldl_app (c : Array Nat) : ∀ (n : Nat) (acc : Array Nat), ((List.replicate n c).foldl (· ++ ·) acc).toList = acc.toList ++ (List.replicate n c.toList).flatten
  | 0, acc => by simp
  | n + 1, acc => by
    rw [List.replicate_succ, List.foldl_cons, foldl_app c n (acc ++ c), List.replicate_succ, List.flatten_cons, Array.toList_append, List.append_assoc]
theorem mul_tl (x : Str) (n : Nat) : (Txt.mul x (n : Int)).cps.toList = (List.replicate n x.cps.toList).flatten := by
  unfold Txt.mul
  by_cases h1 : (n : Int) < 1
  · rw [if_pos h1]
    have : n = 0 := by omega
    subst this
    rfl
  · rw [if_neg h1]
    by_cases h2 : ((n : Int) == 1 || x.length == 0) = true
    · rw [if_pos h2]
      rcases Bool.or_eq_true_iff.mp h2 with e | e
      · have e1 : (n : Int) = 1 := eq_of_beq e
        have : n = 1 := by omega
        subst this
        simp
      · have e1 : x.length = 0 := eq_of_beq e
        have e2 : x.cps.toList = [] := by
          have : x.cps.size = 0 := e1
          exact List.eq_nil_of_length_eq_zero (by simpa using this)
        rw [e2]
        simp
    · rw [if_neg h2]
      show ((List.replicate (n : Int).toNat x.cps).foldl (· ++ ·) #[]).toList = _
      rw [foldl_app, Int.toNat_natCast]
      simp
def rMulS : R2 := fun x y H Q => ∃ (z : Str) (n : Nat), x = .str z ∧ y = .int (n : Int) ∧ z.length * n ≤ 16777216 ∧ n ≤ 16777216 ∧ Q (.str (Txt.mul z (n : Int))) H
theorem op_mulS : OpR X (binaryOp .Mult) rMulS := by
  intro pins s σ H x y v u Q I rx ry h
  obtain ⟨z, n, rfl, rfl, h1, h2, q⟩ := h
  obtain ⟨t, rfl⟩ := rx
  obtain ⟨t', rfl⟩ := ry
  refine SB.mul ⟨?_, fun h3 _ h4 => ?_, fun _ _ => ?_⟩ fun t2 k => ⟨.str _, H, I.tok _, ⟨_, rfl⟩, q⟩
  · have a : ¬ ((n : Int) < -(2 ^ 63 : Int)) := by omega
    have b : ¬ ((n : Int) ≥ 2 ^ 63) := by
      have : (2 : Int) ^ 63 = 9223372036854775808 := by decide
      omega
    rw [decide_eq_false a, decide_eq_false b]
    rfl
  · have e : (2 : Int) ^ 63 = 9223372036854775808 := by decide
    rw [e] at h4
    have hn : (1 : Int) ≤ n := by omega
    have := Int.lt_mul_of_ediv_lt (show (0 : Int) < n by omega) h4
    have h5 : ((z.length * n : Nat) : Int) = (z.length : Int) * n := by rw [Int.natCast_mul]
    omega
  · rw [Int.toNat_natCast]
    unfold Builtin.Str.tooLong
    have : sizeLine = 16777216 := sizeLine_eq
    simp
    omega
/-- s[::-1] -/
def revS (z : Str) : Str := ⟨z.cps.toList.reverse.toArray⟩
def tRevS (te : TE) : TE := fun σ H Q => te σ H fun x H1 => ∃ z : Str, x = .str z ∧ z.length ≤ sizeLine ∧ Q (.str (revS z)) H1
theorem rev_list {α : Type} (l : List α) (d : α) : (List.range l.length).map (fun k => l.getD (l.length - 1 - k) d) = l.reverse := by
  apply List.ext_getElem
  · simp
  · intro i h1 h2
    have hi : i < l.length := by simpa using h2
    rw [List.getElem_map, List.getElem_range, List.getElem_reverse, List.getD_eq_getElem?_getD, List.getElem?_eq_getElem (by omega)]
    simp
theorem rev_pick (z : Str) : ((Builtin.Str.strSliceIndices none none (-1) z.length).filterMap (z.cps[·]?)) = z.cps.toList.reverse := by
  rw [picked_rev, filterMap_get, List.map_map]
  · rw [← rev_list z.cps.toList 0]
    have e : z.length = z.cps.toList.length := by simp [Str.length]
    rw [e]
    apply List.map_congr_left
    intro k hk
    have hk' : k < z.cps.toList.length := List.mem_range.mp hk
    have h2 : z.cps.toList.length - 1 - k < z.cps.size := by
      have : z.cps.toList.length = z.cps.size := Array.length_toList
      omega
    rw [List.getD_eq_getElem?_getD, Array.getElem?_toList]
    have h3 : z.cps.size - 1 - k < z.cps.size := by
      have : z.cps.toList.length = z.cps.size := Array.length_toList
      omega
    simp [Array.getD, dif_pos h3, Array.getElem?_eq_getElem h3]
  · intro i hi
    obtain ⟨k, hk, rfl⟩ := List.mem_map.mp hi
    have hk' : k < z.length := List.mem_range.mp hk
    show z.length - 1 - k < z.length
    omega
theorem pe_revS {e : Expr} {te : TE} {k : Nat} {p1 p2 p3 pos : Pos} (he : PE X e te) : PE X (.Subscript e (.Slice none none (some (.UnaryOp .USub (.Constant (.int 1) k p1) p2)) p3) pos) (tRevS te) := by
  refine ⟨fun pins s σ H Q I h => ?_⟩
  refine Subscript_ (thn (he.run pins s σ H _ I h) fun v s1 ⟨x, H1, I1, r1, q1⟩ => ?_)
  obtain ⟨z, ex, hz, q⟩ := q1
  subst ex
  obtain ⟨t, rfl⟩ := r1
  have hst : PO X (some (.UnaryOp .USub (.Constant (.int 1) k p1) p2)) (tPart (tUn (rU fun i => .int (-i)) (tC (.int 1)))) := po_some (pe_un un_neg pe_int)
  refine wpAny_Slice (thn (po_none.run pins s1 σ H1 (fun o H2 => o = none ∧ H2 = H1) I1 ⟨rfl, rfl⟩) fun vl s2 ⟨l, H2, I2, pl, el, e2⟩ => ?_)
  subst el e2
  refine thn (po_none.run pins s2 σ H2 (fun o H3 => o = none ∧ H3 = H2) I2 ⟨rfl, rfl⟩) fun vu s3 ⟨u, H3, I3, pu, eu, e3⟩ => ?_
  subst eu e3
  refine thn (hst.run pins s3 σ H3 (fun o H4 => o = some (-1) ∧ H4 = H3) I3 ⟨1, rfl, -1, rfl, rfl, rfl⟩) fun vs s4 ⟨o, H4, I4, ps, eo, e4⟩ => ?_
  subst eo e4
  have I5 : Inv X pins σ H4 { s4 with heap := s4.heap.push { cls := .type "slice", data := .fields #[vl, vu, vs] } } := I4.kept (t' := s4.toks) fun b ob q => Heap.get?_push_of_some _ q
  obtain ⟨l, rfl, hl⟩ := IsPart.raw pl
  obtain ⟨u, rfl, hu⟩ := IsPart.raw pu
  obtain ⟨w, rfl, hw⟩ := IsPart.raw ps
  cases l with
  | some p => cases hl
  | none =>
    cases u with
    | some p => cases hu
    | none =>
      cases w with
      | none => cases hw
      | some p =>
        obtain ⟨m, tk⟩ := p
        have em : m = -1 := by simpa using hw
        subst em
        show wpAny (model X.prog X.w) X.A (subscriptTail e (.Slice none none (some (.UnaryOp .USub (.Constant (.int 1) k p1) p2)) p3) (.str z t) (.ref s4.heap.objs.size)) (EP X pins σ Q) X.xe _
        refine tail_any (ops := [.str z t, .ref s4.heap.objs.size]) (typeIs_str _ _ _) F.slot_str_getitem.lookup ?_ (by with_unfolding_all rfl)
        obtain ⟨os, hos, hcs, hds⟩ := Heap.IsSliceOf.new s4.heap (partValue none) (partValue none) (partValue (some ((-1 : Int), tk)))
        refine wpAny_getItem_str_slice (l := none) (u := none) (st := some ((-1 : Int), tk)) ⟨os, hos, hcs, hds⟩ rfl ?_
        show Made.post (if ((-1 : Int) == 1 && (Builtin.Str.strSliceIndices none none (-1) z.length).length == z.length) = true then Made.val (.str z t)
          else Made.str ⟨((Builtin.Str.strSliceIndices none none (-1) z.length).filterMap (z.cps[·]?)).toArray⟩) (EP X pins σ Q) _
        rw [if_neg (by simp), rev_pick]
        refine ⟨?_, .str (revS z), H4, I5.tok _, ⟨_, rfl⟩, q⟩
        show (z.cps.toList.reverse.toArray).size ≤ sizeLine
        rw [List.size_toArray, List.length_reverse, Array.length_toList]
        exact hz
/-- bool(x), x an instance with __bool__ -/
def rBool (C : Addr) (sp : Sp) (E : XK) : List V → Hp → VK → Prop := fun xs H Q => ∃ a dx fs, xs = [.ref a] ∧ H a = some (.ins C dx fs) ∧ sp [.ref a] H (fun r H' => ∃ b, r = .bl b ∧ Q (.bl b) H') E
theorem call_bool_own (S : Sm X.K C "__bool__" f) (F : FnR X.prog X.w X.K X.mg X.base CX k f sp) (hr : Room (k + 1) X.A) (hx : Passes CX X E) : CallR X (.type "bool") (rBool C sp E) := by
  intro pins s σ H xs us Q I r h
  obtain ⟨a, dx, fs, rfl, ha, q⟩ := h
  cases r.ref1
  obtain ⟨od, J⟩ := inst_of I ha
  obtain ⟨m, hF⟩ := I.fr
  have hr2 := Room.in2 hr
  refine callType_codes (T := "bool") (Bi := Builtin.«object.__init__») (Q₁ := fun r s₁ => (∃ b, r = .bool b) ∧ EP X pins σ Q r s₁) PySem.F.called_bool (PySem.F.typeCall_bool_1 _) PySem.F.entry_object_init ?_ ?_
  · refine codeAny_of_tree ?_
    show wpAny _ X.A.in1.in1 (do checkBuiltinCall "bool.__new__" ⟨[.type "bool", .ref a], []⟩; again (.builtin "bool.__new__" ⟨[.type "bool", .ref a], []⟩)) _ _ s
    refine wpAny_bind (wpAny_of_eq (PySem.F.newCall_bool_1 _) (wpAny_pure ⟨plainId_quiet (by decide +kernel) _, codeAny_builtin PySem.F.entry_bool_new ?_⟩))
    rw [Around.under_plainId (by decide +kernel) _]
    have f1 := PySem.F.conv_sub_bool
    have tr : wpAny (model X.prog X.w) X.A.in1.in1 (truthy (.ref a)) (fun b s' => EP X pins σ Q (.bool b) s') X.xe s := by
      refine PySem.W.truthy_K hF I.ok.mod.kin J S.at_ S.fn (wpAny_mono (fn_at (A := X.A.in1.in1) rfl hr2 F hx I (vr1 a) q) (fun w s' z => ?_) fun _ _ z => z)
      obtain ⟨v', H', I', r', b, rfl, q'⟩ := z
      cases r'
      exact ⟨V.bl b, H', I', rfl, q'⟩
    unfold Builtin.«bool.__new__»
    obtain ⟨hp, g, d, tk, os⟩ := s
    repeat (first | (with_reducible refine wpAny_mono tr (fun b s' hb => ?_) fun _ _ z => z) | wp_step)

    exact ⟨⟨b, rfl⟩, hb⟩
  · rintro obj s₁ ⟨⟨b, rfl⟩, hq⟩
    exact ⟨rfl, PySem.F.args_object_init_2 _ _, object_init_meets PySem.F.called_bool.init.lookup PySem.F.called_bool.made (by decide) X.prog X.w X.A.in1 _ s₁ ⟨rfl, rfl, hq⟩⟩
end
end Od
namespace Od
open PySem PySem.Spec PyProof.Rows L2 C8
section
variable {X : Cx} {k j : Nat} {C : Addr} {m : Str} {sp : Sp} {dvs : List V} {o e : Expr} {es : List Expr} {ta : TE} {t : TA} {p pos apos : Pos}
theorem Met.raw (c : C8.Met X.prog X.w X.K X.mg X.base k C m sp []) : ∃ f, Sm X.K C m f ∧ FnR X.prog X.w X.K X.mg X.base C8.CX0 k f sp := by
  obtain ⟨f, fd, ps, ds, hc, hm, F, b, d⟩ := c.ex
  exact ⟨f, ⟨hm.at_, hm.fn⟩, (F.raw b d).imp fun vs H Q E h => by rw [List.append_nil]; exact h⟩
theorem op_ownM {op : Operator} (hc : PySem.W.selfFirst X.K C = true) (c : C8.Met X.prog X.w X.K X.mg X.base k C (PySem.dunder op.info.2) sp []) (hr : Room j X.A) (hk : k ≤ j) : OpR X (binaryOp op) (rOwn C sp C8.E0) := by
  obtain ⟨f, S, F⟩ := Met.raw c
  exact op_own hc S F (hr.mono hk) C8.pass0
theorem op_ownIM {op : Operator} {fo ro : Option Value} (hc : PySem.W.selfFirst X.K C = true) (c : C8.Met X.prog X.w X.K X.mg X.base k C (PySem.dunder op.info.2) sp []) (hR : PySem.W.findIn X.K (.ref C) (dunderR op.info.2) = some none) (hr : Room j X.A) (hk : k ≤ j)
    (h1 : PySem.W.findIn X.K (.type "int") (PySem.dunder op.info.2) = some fo) (h2 : PySem.W.findIn X.K (.type "int") (dunderR op.info.2) = some ro) (hU : PySem.W.subIn X.K (.type "int") (.ref C) = some false) : OpR X (binaryOp op) (rOwnI C sp C8.E0) := by
  obtain ⟨f, S, F⟩ := Met.raw c
  exact op_ownI hc S hR h1 h2 hU F (hr.mono hk) C8.pass0
theorem un_ownNegM (c : C8.Met X.prog X.w X.K X.mg X.base k C "__neg__" sp []) (hr : Room j X.A) (hk : k ≤ j) : UnR X (unaryOp .USub) (rOwnU C sp C8.E0) := by
  obtain ⟨f, S, F⟩ := Met.raw c
  exact un_ownNeg S F (hr.mono hk) C8.pass0
theorem un_ownInvM (c : C8.Met X.prog X.w X.K X.mg X.base k C "__invert__" sp []) (hr : Room j X.A) (hk : k ≤ j) : UnR X (unaryOp .Invert) (rOwnU C sp C8.E0) := by
  obtain ⟨f, S, F⟩ := Met.raw c
  exact un_ownInv S F (hr.mono hk) C8.pass0
theorem op_ownEqM (c : C8.Met X.prog X.w X.K X.mg X.base k C "__eq__" sp []) (hr : Room j X.A) (hk : k ≤ j) : OpR X (compareOp .Eq) (rOwn C sp C8.E0) := by
  obtain ⟨f, S, F⟩ := Met.raw c
  exact op_ownCmp (fun _ _ => rfl) S F (hr.mono hk) C8.pass0
theorem op_ownLeM (c : C8.Met X.prog X.w X.K X.mg X.base k C "__le__" sp []) (hr : Room j X.A) (hk : k ≤ j) : OpR X (compareOp .LtE) (rOwn C sp C8.E0) := by
  obtain ⟨f, S, F⟩ := Met.raw c
  exact op_ownCmp (fun _ _ => rfl) S F (hr.mono hk) C8.pass0
theorem op_ownLtM (c : C8.Met X.prog X.w X.K X.mg X.base k C "__lt__" sp []) (hr : Room j X.A) (hk : k ≤ j) : OpR X (compareOp .Lt) (rOwn C sp C8.E0) := by
  obtain ⟨f, S, F⟩ := Met.raw c
  exact op_ownCmp (fun _ _ => rfl) S F (hr.mono hk) C8.pass0
theorem op_ownGeM (c : C8.Met X.prog X.w X.K X.mg X.base k C "__ge__" sp []) (hr : Room j X.A) (hk : k ≤ j) : OpR X (compareOp .GtE) (rOwn C sp C8.E0) := by
  obtain ⟨f, S, F⟩ := Met.raw c
  exact op_ownCmp (fun _ _ => rfl) S F (hr.mono hk) C8.pass0
theorem op_ownGtM (c : C8.Met X.prog X.w X.K X.mg X.base k C "__gt__" sp []) (hr : Room j X.A) (hk : k ≤ j) : OpR X (compareOp .Gt) (rOwn C sp C8.E0) := by
  obtain ⟨f, S, F⟩ := Met.raw c
  exact op_ownCmp (fun _ _ => rfl) S F (hr.mono hk) C8.pass0
theorem op_ownNeM (c : C8.Met X.prog X.w X.K X.mg X.base k C "__eq__" sp []) (N : PySem.W.findIn X.K (.ref C) "__ne__" = some (some (.builtin "object.__ne__"))) (O : PySem.W.mroIn X.K C (.type "object") = some true) (hr : Room j X.A) (hk : k + 1 ≤ j) :
    OpR X (compareOp .NotEq) (rOwnNe C sp C8.E0) := by
  obtain ⟨f, S, F⟩ := Met.raw c
  exact op_ownNe S N O F (hr.mono hk) C8.pass0
theorem op_ownInM (c : C8.Met X.prog X.w X.K X.mg X.base k C "__contains__" sp []) (hr : Room j X.A) (hk : k ≤ j) : OpR X (compareOp .In) (rOwnIn C sp C8.E0 false) := by
  obtain ⟨f, S, F⟩ := Met.raw c
  exact op_ownIn S F (hr.mono hk) C8.pass0
theorem op_ownNotInM (c : C8.Met X.prog X.w X.K X.mg X.base k C "__contains__" sp []) (hr : Room j X.A) (hk : k ≤ j) : OpR X (compareOp .NotIn) (rOwnIn C sp C8.E0 true) := by
  obtain ⟨f, S, F⟩ := Met.raw c
  exact op_ownNotIn S F (hr.mono hk) C8.pass0
theorem tru_ownM (c : C8.Met X.prog X.w X.K X.mg X.base k C "__bool__" sp []) (hr : Room j X.A) (hk : k ≤ j) : TruR X (rTru C sp C8.E0) := by
  obtain ⟨f, S, F⟩ := Met.raw c
  exact tru_own S F (hr.mono hk) C8.pass0
theorem pt_own {a : Expr} (c : C8.Met X.prog X.w X.K X.mg X.base k C "__bool__" sp []) (hr : Room j X.A) (hk : k ≤ j) (ha : PE X a ta) (he : ∀ whole, isTrue a X.env whole = (do let v ← whole; standAt a.pos; holding [v] (truthy v)) := by intro _; rfl) :
    PT X a (fun σ H Q => ta σ H fun x H' => rTru C sp C8.E0 x H' Q) := by
  refine ⟨fun pins s σ H Q I hw => ?_⟩
  refine isTrue_plain (thn (ha.run pins s σ H _ I hw) fun v s1 ⟨x, H1, I1, r1, q1⟩ => ?_) (he _)
  exact tru_ownM c hr hk pins s1 σ H1 x v Q I1 r1 q1
theorem call_str_ownM (c : C8.Met X.prog X.w X.K X.mg X.base k C "__str__" sp []) (hr : Room j X.A) (hk : k + 1 ≤ j) : CallR X (.type "str") (rStr C sp C8.E0) := by
  obtain ⟨f, S, F⟩ := Met.raw c
  exact call_str_own S F (hr.mono hk) C8.pass0
theorem call_bool_ownM (c : C8.Met X.prog X.w X.K X.mg X.base k C "__bool__" sp []) (hr : Room j X.A) (hk : k + 1 ≤ j) : CallR X (.type "bool") (rBool C sp C8.E0) := by
  obtain ⟨f, S, F⟩ := Met.raw c
  exact call_bool_own S F (hr.mono hk) C8.pass0
/-! ### an attribute as a target -/
def gFld (K : PySem.W.Frag) (to : TE) (f : Str) : TG := fun v σ H Q => to σ H fun x H1 => ∃ a C dx fs, x = .ref a ∧ H1 a = some (.ins C dx fs) ∧ Cls K C ∧ NoAttr K C f ∧ fs.length < 1000 ∧ Q σ (upd H1 a (.ins C dx (putF f v fs)))
theorem pg_fld {f : Str} (ho : PE X o ta)
    (ha : ∀ v, assign (.Attribute o f pos) X.env v = (do
      let ov ← holding [v] (eval o X.env)
      standAt pos.atName
      holding [v, ov] (setAttr ov f v)
      release [v, ov] []) := by intro _; rfl) : PG X (.Attribute o f pos) (gFld X.K ta f) := by
  refine ⟨fun pins s σ H v u Q I r h => ?_⟩
  rw [ha]
  refine wpAny_bind (wpAny_holding (thn (ho.run pins s σ H _ I h) fun ov s1 ⟨x, H1, I1, r1, a, C, dx, fs, ex, ea, c, n, l, q⟩ => ?_))
  subst ex
  obtain rfl : ov = Value.ref a := r1
  refine wpAny_bind (wpAny_standAt (wpAny_bind (wpAny_holding (setattr_ok I1 ea c n l r fun s3 I3 => ?_))))
  exact wpAny_release ⟨σ, _, I3, q⟩
/-! ### classmethods -/
structure CMt (P : Program) (w : World) (K : PySem.W.Frag) (mg : Str → Option Value) (base : Heap) (k : Nat) (C : Addr) (m : Str) (sp : Sp) : Prop where
  ex : ∃ (mc : Value) (p g : Addr), ClX.CRead K C mc ∧ ClX.CMet K C mc m p g ∧ FnR P w K mg base C8.CX0 k g sp
theorem pe_cm {C : Addr} (c : CMt X.prog X.w X.K X.mg X.base k C m sp) (hr : Room j X.A) (hk : k ≤ j) (he : PE X o ta) (ha : PA X (e :: es) t) {pl : Sem Bool}
    (hst : starEach (e :: es) X.env = (false, eval e X.env) :: starEach es X.env := by rfl) (hpl : (backTo pos (starEach es X.env)).any (·.1) = false := by rfl)
    (ht : eval (.Call (.Attribute o m apos) (e :: es) [] pos) X.env = (do
      let ov ← eval o X.env
      standAt apos.atName
      let (f, first) ← holding [ov] (getMethod ov m pl)
      callWith pos f first (backTo pos (starEach (e :: es) X.env)) (backToKw pos (keywordEach [] X.env))) := by rfl) :
    PE X (.Call (.Attribute o m apos) (e :: es) [] pos) (ClX.tCMeth C sp C8.E0 ta t) := by
  obtain ⟨mc, p, g, r, cm, F⟩ := c.ex
  exact ClX.pe_cmeth (pl := pl) he r cm F (hr.mono hk) C8.pass0 ha hst hpl ht
theorem pe_cm0 {C : Addr} (c : CMt X.prog X.w X.K X.mg X.base k C m sp) (hr : Room j X.A) (hk : k ≤ j) (he : PE X o ta) {pl : Sem Bool}
    (ht : eval (.Call (.Attribute o m apos) [] [] pos) X.env = (do
      let ov ← eval o X.env
      standAt apos.atName
      let (f, first) ← holding [ov] (getMethod ov m pl)
      callWith pos f first (backTo pos (starEach [] X.env)) (backToKw pos (keywordEach [] X.env))) := by rfl) :
    PE X (.Call (.Attribute o m apos) [] [] pos) (ClX.tCMeth C sp C8.E0 ta tNil) := by
  obtain ⟨mc, p, g, r, cm, F⟩ := c.ex
  refine ⟨fun pins s σ H Q I h => ?_⟩
  refine PySem.W.methodCall_KW (pl := pl) (thn (he.run pins s σ H _ I h) fun u s1 ⟨x, H1, I1, rx, ex, q⟩ => ?_) ht
  subst ex
  obtain rfl : u = Value.ref C := rx
  refine ClX.getmethcm_ok I1 r cm fun s2 I2 => ?_
  exact PySem.W.callWith_M0 (first := []) ⟨ClX.pin_at I2, I2.kIn⟩ cm.fi (ClX.run_cm (us := []) (vs := []) F (hr.mono hk) C8.pass0 I2 .nil q)
end
end Od
end
section
set_option Elab.async false
set_option linter.all false
set_option maxRecDepth 100000
set_option maxHeartbeats 2000000
/-! rows of signs as texts; what the text has written; short rules -/
namespace Od
open PySem PySem.Spec PyProof.Rows L2 Day
/-! ### rows as texts -/
def sg (b : Bool) : Nat := if b then 49 else 48
def rowS (l : List Bool) : Str := SX.S (l.map sg)
theorem rowS_len (l : List Bool) : (rowS l).length = l.length := by
  unfold rowS
  rw [SX.S_len, List.length_map]
theorem rowS_cat (a b : List Bool) : rowS a ++ rowS b = rowS (a ++ b) := by
  unfold rowS
  rw [SX.S_cat, List.map_append]
theorem sg_inj {a b : Bool} (h : sg a = sg b) : a = b := by cases a <;> cases b <;> first | rfl | (revert h; decide)
theorem rowS_inj {a b : List Bool} (h : rowS a = rowS b) : a = b := by
  have := SX.S_inj h
  revert b
  induction a with
  | nil =>
    intro b _ h
    cases b with
    | nil => rfl
    | cons x b => simp at h
  | cons x a ih =>
    intro b _ h
    cases b with
    | nil => simp at h
    | cons y b =>
      simp only [List.map_cons, List.cons.injEq] at h
      rw [sg_inj h.1, ih (b := b) (congrArg SX.S h.2) h.2]
theorem rowS_dec (a b : List Bool) : decide (V.str (rowS a) = V.str (rowS b)) = decide (a = b) := by
  by_cases h : a = b
  · subst h; simp
  · rw [decide_eq_false h, decide_eq_false]
    intro e
    exact h (rowS_inj (V.str.inj e))
theorem rowS_nil : rowS [] = ("" : Str) := by decide +kernel
theorem rowS_0 : rowS [false] = ("0" : Str) := by decide +kernel
theorem rowS_1 : rowS [true] = ("1" : Str) := by decide +kernel
theorem rowS_tl (l : List Bool) : (rowS l).cps.toList = l.map sg := rfl
theorem rowS_from (l : List Bool) (i : Nat) (h : i ≤ l.length) : cutS (rowS l) (some (i : Int)) none = rowS (l.drop i) := by
  refine TL.ext_tl ?_
  show (((rowS l).cps.toList.drop (HT.sIx (rowS l).length 0 (some (i : Int)))).take (HT.sIx (rowS l).length (rowS l).length none - HT.sIx (rowS l).length 0 (some (i : Int)))) = (l.drop i).map sg
  rw [HT.sIx_nat, HT.sIx_none, rowS_tl, rowS_len, Nat.min_eq_left h, List.map_drop]
  apply List.take_of_length_le
  rw [List.length_drop, List.length_map]
  exact Nat.le_refl _
theorem rowS_to (l : List Bool) (i : Nat) (h : i ≤ l.length) : cutS (rowS l) none (some (i : Int)) = rowS (l.take i) := by
  refine TL.ext_tl ?_
  show (((rowS l).cps.toList.drop (HT.sIx (rowS l).length 0 none)).take (HT.sIx (rowS l).length (rowS l).length (some (i : Int)) - HT.sIx (rowS l).length 0 none)) = (l.take i).map sg
  rw [HT.sIx_nat, HT.sIx_none, rowS_tl, rowS_len, Nat.min_eq_left h, List.drop_zero, Nat.sub_zero, List.map_take]
theorem rowS_mid (l : List Bool) (i j : Nat) (h : i ≤ j) (hj : j ≤ l.length) : cutS (rowS l) (some (i : Int)) (some (j : Int)) = rowS ((l.drop i).take (j - i)) := by
  refine TL.ext_tl ?_
  show (((rowS l).cps.toList.drop (HT.sIx (rowS l).length 0 (some (i : Int)))).take (HT.sIx (rowS l).length (rowS l).length (some (j : Int)) - HT.sIx (rowS l).length 0 (some (i : Int)))) = ((l.drop i).take (j - i)).map sg
  rw [HT.sIx_nat, HT.sIx_nat, rowS_tl, rowS_len, Nat.min_eq_left (show i ≤ l.length by omega), Nat.min_eq_left hj, List.map_take, List.map_drop]
theorem rowS_mul (l : List Bool) (n : Nat) : Txt.mul (rowS l) (n : Int) = rowS (List.replicate n l).flatten := by
  refine TL.ext_tl ?_
  show (Txt.mul (rowS l) (n : Int)).cps.toList = (List.replicate n l).flatten.map sg
  rw [mul_tl, rowS_tl]
  induction n with
  | zero => rfl
  | succ n ih => rw [List.replicate_succ, List.flatten_cons, ih, List.replicate_succ, List.flatten_cons, List.map_append]
theorem rowS_rev (l : List Bool) : revS (rowS l) = rowS l.reverse := by
  refine TL.ext_tl ?_
  show (rowS l).cps.toList.reverse = l.reverse.map sg
  rw [rowS_tl, List.map_reverse]
theorem rowS_at {l : List Bool} {i : Nat} (h : i < l.length) : atI (rowS l).cps.toList (i : Int) = some (sg (l.getD i false)) := by
  apply atI_nat
  rw [rowS_tl, List.getElem?_map, List.getElem?_eq_getElem h, List.getD_eq_getElem?_getD, List.getElem?_eq_getElem h]
  rfl
/-- the sign at a place, cyc's way -/
theorem rowS_cyc {l : List Bool} (h : l ≠ []) (z : Int) : atI (rowS l).cps.toList (z % (l.length : Int)) = some (sg (cyc l z)) := by
  have hl := prim_len h
  have m0 := Int.emod_nonneg z (show (l.length : Int) ≠ 0 by omega)
  have m1 := Int.emod_lt_of_pos z (show (0 : Int) < l.length by omega)
  have := rowS_at (l := l) (i := (z % (l.length : Int)).toNat) (by omega)
  rw [Int.toNat_of_nonneg m0] at this
  exact this
/-- .. from behind: row[-1 - k % len(row)] -/
theorem rowS_back {l : List Bool} (h : l ≠ []) (k : Int) : atI (rowS l).cps.toList (-1 - k % (l.length : Int)) = some (sg (cyc l (-1 - k))) := by
  have hl := prim_len h
  have m0 := Int.emod_nonneg k (show (l.length : Int) ≠ 0 by omega)
  have m1 := Int.emod_lt_of_pos k (show (0 : Int) < l.length by omega)
  have e : (-1 - k) % (l.length : Int) = (l.length : Int) - 1 - k % (l.length : Int) := by
    have e1 : (-1 - k) % (l.length : Int) = ((l.length : Int) - 1 - k % (l.length : Int)) % (l.length : Int) := by
      have q := Int.mul_ediv_add_emod k (l.length : Int)
      rw [show (l.length : Int) - 1 - k % (l.length : Int) = -1 - k + (1 + k / (l.length : Int)) * (l.length : Int) by
        rw [Int.add_mul, Int.one_mul, Int.mul_comm (k / (l.length : Int))]
        omega]
      rw [Int.add_mul_emod_self_right]
    rw [e1, Int.emod_eq_of_lt (by omega) (by omega)]
  have h2 := rowS_cyc h (-1 - k)
  rw [e] at h2
  unfold atI at h2 ⊢
  have hn : (rowS l).cps.toList.length = l.length := by rw [rowS_tl, List.length_map]
  rw [hn] at h2 ⊢
  have e3 : ixN l.length (-1 - k % (l.length : Int)) = ixN l.length ((l.length : Int) - 1 - k % (l.length : Int)) := by
    unfold ixN
    rw [if_neg (by omega), if_pos (by omega), if_pos (by omega), if_pos (by omega)]
    congr 1
    omega
  rw [e3]
  exact h2
theorem sgn_dec (a b : Bool) : decide (V.str ⟨#[sg a]⟩ = V.str ⟨#[sg b]⟩) = decide (a = b) := by cases a <;> cases b <;> decide +kernel
def bi (b : Bool) : Int := if b then 1 else 0
theorem int_sgn (b : Bool) : intText? (⟨#[sg b]⟩ : Str) = some (bi b) := by cases b <;> decide +kernel
end Od
end
section
set_option Elab.async false
set_option linter.all false
set_option maxRecDepth 100000
set_option maxHeartbeats 2000000
set_option autoImplicit false
/-! what every law's text has in common: names, heaps that grow, comprehensions, defs by their places -/
namespace Od
open PySem PySem.Spec PyProof.Rows L2 C8 Day
/-- names that the text leaves to the built-ins -/
structure Txt (K : PySem.W.Frag) (mg : Str → Option Value) : Prop where
  b_len : mg "len" = none
  b_abs : mg "abs" = none
  b_int : mg "int" = none
  b_str : mg "str" = none
  b_min : mg "min" = none
  b_max : mg "max" = none
  b_range : mg "range" = none
  b_all : mg "all" = none
  b_any : mg "any" = none
  b_isinstance : mg "isinstance" = none
  b_bool : mg "bool" = none
  b_list : mg "list" = none
  b_enumerate : mg "enumerate" = none
  b_sorted : mg "sorted" = none
  b_dict : mg "dict" = none
  b_repr : mg "repr" = none
  b_tuple : mg "tuple" = none
  b_zip : mg "zip" = none
  b_sum : mg "sum" = none
  b_reversed : mg "reversed" = none
/-- a def of the module, its parameters -/
def DefOf (K : PySem.W.Frag) (mg : Str → Option Value) (x : Str) (st : Stmt) (ps : List Str) : Prop := ∃ f fd, Def K mg x st f fd ∧ Binds K fd ps []
/-- what stood stands -/
def Le (H H' : Hp) : Prop := ∀ a o, H a = some o → H' a = some o
theorem Le.refl {H : Hp} : Le H H := fun _ _ h => h
theorem Le.trans {H H1 H2 : Hp} (a : Le H H1) (b : Le H1 H2) : Le H H2 := fun x o h => b x o (a x o h)
theorem Le.new {H : Hp} {p : Addr} {o : HO} (h : H p = none) : Le H (upd H p o) := fun a u e => by
  by_cases c : a = p
  · subst c; rw [h] at e; cases e
  · unfold upd; rw [if_neg c]; exact e
theorem Le.upd {H H' : Hp} {p : Addr} {o : HO} (l : Le H H') (h : H p = none) : Le H (upd H' p o) := fun a u e => by
  by_cases c : a = p
  · subst c; rw [h] at e; cases e
  · unfold L2.upd; rw [if_neg c]; exact l a u e
theorem Le.none {H H' : Hp} {p : Addr} (l : Le H H') (h : H' p = none) : H p = none := by
  cases e : H p with
  | none => rfl
  | some o => rw [l p o e] at h; cases h
theorem upd_self {H : Hp} {p : Addr} {o : HO} : upd H p o p = some o := by unfold upd; rw [if_pos rfl]
theorem upd_ne {H : Hp} {p q : Addr} {o : HO} (h : q ≠ p) : upd H p o q = H q := by unfold upd; rw [if_neg h]
/-! ### lists made by comprehensions -/
def LeX (D : Addr) (H H' : Hp) : Prop := ∀ a o, a ≠ D → H a = some o → H' a = some o
theorem Le.x {D : Addr} {H H' : Hp} (l : Le H H') : LeX D H H' := fun a o _ h => l a o h
theorem LeX.upd {D : Addr} {o : HO} {H H' : Hp} (l : LeX D H H') : LeX D H (upd H' D o) := fun a u c h => by rw [upd_ne c]; exact l a u c h
theorem LeX.le {D : Addr} {H H' : Hp} (l : LeX D H H') (h : H D = none) : Le H H' := fun a o e => l a o (fun c => by subst c; rw [h] at e; cases e) e
/-- a comprehension whose turns leave the heap as it was, or with more in it: R tells what a turn gives (none: not taken) -/
theorem lc_walk {J : It} {n : Nat} {G : Hp → Prop} {Y : Nat → Hp → V → Hp → Prop} (w : Walk J n G Y) {g : TG} {tt : TT} {te : TE} {vs : List Nat} {σ : L2.St} {H1 : Hp} {D : Addr} {Qd : Hp → Prop} (hD : H1 D = none) (hn : n ≤ sizeLine)
    (hG : ∀ H, Le H1 H → G H) (hY : ∀ i H x H', Y i H x H' → Le H H') (R : Nat → Option V → Hp → Prop) (hR : ∀ i r H H', LeX D H H' → (∃ acc, H D = some (.lst acc)) → R i r H → R i r H')
    (hs : ∀ i x H H', i < n → Le H1 H → (∃ acc, H D = some (.lst acc)) → Y i H x H' → ∀ N : Option V → Hp → Prop, (∀ r H2, Le H' H2 → R i r H2 → N r H2) → g x (wipe σ vs) H' fun σ2 H2 => wipe σ2 vs = wipe σ vs ∧ tt σ2 H2 fun b H3 => if b = true then te σ2 H3 fun y H4 => N (some y) H4 else N none H3)
    (hd : ∀ H (rs : List (Option V)), Le H1 H → rs.length = n → (∀ i r, rs[i]? = some r → R i r H) → H D = some (.lst (rs.filterMap id)) → Qd H) :
    ∃ W : Nat → Nat → Hp → Prop, (∃ m, W 0 m (upd H1 D (.lst []))) ∧ ∀ i m H, W i m H →
      (J.stop i H ∧ Qd H) ∨ (J.go i H ∧ ∃ Nx : Hp → Prop, (∀ H', Nx H' → ∃ m', m' < m ∧ W (i + 1) m' H') ∧ ∀ x H', J.yld i H x H' → g x (wipe σ vs) H' fun σ2 H2 => wipe σ2 vs = wipe σ vs ∧ tt σ2 H2 fun b H3 =>
        if b = true then te σ2 H3 fun y H4 => ∃ acc, H4 D = some (.lst acc) ∧ acc.length < sizeLine ∧ Nx (upd H4 D (.lst (acc ++ [y]))) else Nx H3) := by
  refine lc_it w (fun i H => Le H1 H ∧ ∃ rs : List (Option V), rs.length = i ∧ (∀ j r, rs[j]? = some r → R j r H) ∧ H D = some (.lst (rs.filterMap id))) ⟨Le.new hD, [], rfl, fun j r h => by simp at h, upd_self⟩ (fun i H _ p => hG H p.1) ?_ ?_
  · rintro i x H H' hi ⟨le, rs, hl, hr, e⟩ hy
    have l2 := hY i H x H' hy
    have eD : H' D = some (.lst (rs.filterMap id)) := l2 D _ e
    have st := hs i x H H' hi le ⟨_, e⟩ hy (fun r H4 => match r with
      | some y => ∃ acc, H4 D = some (.lst acc) ∧ acc.length < sizeLine ∧ (Le H1 (upd H4 D (.lst (acc ++ [y]))) ∧ ∃ rs' : List (Option V), rs'.length = i + 1 ∧ (∀ j r, rs'[j]? = some r → R j r (upd H4 D (.lst (acc ++ [y])))) ∧ upd H4 D (.lst (acc ++ [y])) D = some (.lst (rs'.filterMap id)))
      | none => Le H1 H4 ∧ ∃ rs' : List (Option V), rs'.length = i + 1 ∧ (∀ j r, rs'[j]? = some r → R j r H4) ∧ H4 D = some (.lst (rs'.filterMap id))) ?_
    · exact st
    · intro r H2 l3 hr2
      have eD2 := l3 D _ eD
      have lenf : (rs.filterMap id).length ≤ i := by rw [← hl]; exact List.length_filterMap_le _ _
      cases r with
      | none =>
        refine ⟨le.trans (l2.trans l3), rs ++ [none], by simp [hl], fun j r hj => ?_, by simpa using eD2⟩
        by_cases c : j < rs.length
        · rw [List.getElem?_append_left c] at hj
          exact hR j r H H2 (l2.trans l3).x ⟨_, e⟩ (hr j r hj)
        · have : j = i := by
            have := (List.getElem?_eq_some_iff.mp hj).1
            simp [hl] at this; omega
          subst this
          rw [List.getElem?_append_right (by omega), hl] at hj
          simp at hj
          subst hj
          exact hr2
      | some y =>
        refine ⟨_, eD2, by omega, (le.trans (l2.trans l3)).upd hD, rs ++ [some y], by simp [hl], fun j r hj => ?_, by rw [upd_self]; simp⟩
        have lx : LeX D H2 (upd H2 D (.lst (rs.filterMap id ++ [y]))) := (Le.refl).x.upd
        by_cases c : j < rs.length
        · rw [List.getElem?_append_left c] at hj
          exact hR j r H2 _ lx ⟨_, eD2⟩ (hR j r H H2 (l2.trans l3).x ⟨_, e⟩ (hr j r hj))
        · have : j = i := by
            have := (List.getElem?_eq_some_iff.mp hj).1
            simp [hl] at this; omega
          subst this
          rw [List.getElem?_append_right (by omega), hl] at hj
          simp at hj
          subst hj
          exact hR _ _ H2 _ lx ⟨_, eD2⟩ hr2
  · rintro H ⟨le, rs, hl, hr, e⟩
    exact hd H rs le hl hr e
/-- .. whose values are told by the turn alone -/
theorem lc_pure {J : It} {n : Nat} {G : Hp → Prop} {Y : Nat → Hp → V → Hp → Prop} (w : Walk J n G Y) {g : TG} {tt : TT} {te : TE} {vs : List Nat} {σ : L2.St} {H1 : Hp} {D : Addr} {Qd : Hp → Prop} (hD : H1 D = none) (hn : n ≤ sizeLine)
    (hG : ∀ H, Le H1 H → G H) (hY : ∀ i H x H', Y i H x H' → Le H H') (el : Nat → Option V)
    (hs : ∀ i x H H', i < n → Le H1 H → Y i H x H' → ∀ N : Option V → Hp → Prop, (∀ H2, Le H' H2 → N (el i) H2) → g x (wipe σ vs) H' fun σ2 H2 => wipe σ2 vs = wipe σ vs ∧ tt σ2 H2 fun b H3 => if b = true then te σ2 H3 fun y H4 => N (some y) H4 else N none H3)
    (hd : ∀ H, Le H1 H → H D = some (.lst ((List.range n).filterMap el)) → Qd H) :
    ∃ W : Nat → Nat → Hp → Prop, (∃ m, W 0 m (upd H1 D (.lst []))) ∧ ∀ i m H, W i m H →
      (J.stop i H ∧ Qd H) ∨ (J.go i H ∧ ∃ Nx : Hp → Prop, (∀ H', Nx H' → ∃ m', m' < m ∧ W (i + 1) m' H') ∧ ∀ x H', J.yld i H x H' → g x (wipe σ vs) H' fun σ2 H2 => wipe σ2 vs = wipe σ vs ∧ tt σ2 H2 fun b H3 =>
        if b = true then te σ2 H3 fun y H4 => ∃ acc, H4 D = some (.lst acc) ∧ acc.length < sizeLine ∧ Nx (upd H4 D (.lst (acc ++ [y]))) else Nx H3) := by
  refine lc_walk w hD hn hG hY (fun i r _ => r = el i) (fun _ _ _ _ _ _ h => h) (fun i x H H' hi le _ hy N hN => hs i x H H' hi le hy N fun H2 l => hN _ H2 l rfl) fun H rs le hl hr e => hd H le ?_
  have : rs = (List.range n).map el := by
    apply List.ext_getElem?
    intro i
    by_cases c : i < rs.length
    · rw [List.getElem?_eq_getElem c, List.getElem?_map, List.getElem?_range (by omega)]
      exact congrArg some (hr i _ (List.getElem?_eq_getElem c))
    · rw [List.getElem?_eq_none (by omega), List.getElem?_eq_none (by simp; omega)]
  rw [e, this, List.filterMap_map]
  rfl
theorem yfn_le {f : Nat → V} : ∀ i H x H', YFn f i H x H' → Le H H' := fun _ _ _ _ h => by rw [h.1]; exact .refl
theorem yat_le {xs : List V} : ∀ i H x H', YAt xs i H x H' → Le H H' := fun _ _ _ _ h => by rw [h.1]; exact .refl
/-- a method of a class: its def -/
def MetOf (K : PySem.W.Frag) (C : Addr) (m qual : Str) (st : Stmt) (ps : List Str) : Prop := ∃ f fd, Meth K C m f ∧ C8.Fun K m qual st f fd ∧ L2.Binds K fd ps []
/-- a class: its __init__ -/
def MakOf (K : PySem.W.Frag) (C : Addr) (qual : Str) (st : Stmt) (ps : List Str) : Prop := ∃ f fd, Mk K C f ∧ C8.Fun K "__init__" qual st f fd ∧ L2.Binds K fd ps []
theorem lt_put {f : Str} {v : V} {n : Nat} : ∀ {fs : List (Str × V)}, fs.length < n → (putF f v fs).length < n + 1
  | [], h => by show 1 < n + 1; have : (0 : Nat) < n := h; omega
  | (g, x) :: r, h => by
    have h' : r.length + 1 < n := h
    unfold putF
    split
    · show r.length + 1 < n + 1; omega
    · show (putF f v r).length + 1 < n + 1
      have := lt_put (f := f) (v := v) (n := n - 1) (fs := r) (by omega)
      omega
/-- a classmethod: its def -/
def ClmOf (K : PySem.W.Frag) (C : Addr) (m qual : Str) (st : Stmt) (ps : List Str) : Prop := ∃ (mc : Value) (p g : Addr) (fd : FuncData), ClX.CRead K C mc ∧ ClX.CMet K C mc m p g ∧ C8.Fun K m qual st g fd ∧ L2.Binds K fd ps []
theorem cmt0 {P : Program} {w : World} {K : PySem.W.Frag} {mg : Str → Option Value} {base : Heap} {m qual : Str} {C p g : Addr} {mc : Value} {st : Stmt} {fd : FuncData} {N ps : List Str} {k : Nat} {sp : Sp} (r : ClX.CRead K C mc) (cm : ClX.CMet K C mc m p g) (F : C8.Fun K m qual st g fd) (b : L2.Binds K fd ps []) (S : FnScope N ps (C8.fnScope st)) (len : ∀ vs H Q E, sp vs H Q E → vs.length = ps.length)
    (hbody : ∀ (cdv : Value) (A : Around) (outer : List Env) (s : Shared) (H : Hp) (vs : List V) (Q : VK) (E : XK), Room k (A.deeper (envOfC qual (C8.fnScope st) s.heap.objs.size g cdv)) → sp vs H Q E →
      ∃ t, PSs (cxOf C8.CX0 P w K mg base N qual (C8.fnScope st) g cdv A outer s H E).nox (C8.fnBody st) t ∧ t { nx := fun _ H' => Q .non H', rt := Q } (L2.start N vs) H) : CMt P w K mg base (k + 1) C m sp :=
  ⟨mc, p, g, r, cm, ((C8.fn0 F S len hbody).raw b .nil).imp fun vs H Q E h => by rw [List.append_nil]; exact h⟩
theorem szl {l : List Bool} (h : l.length ≤ 4194304) : (rowS l).length ≤ sizeLine := by rw [rowS_len]; have : sizeLine = 16777216 := sizeLine_eq; omega
theorem posl {l : List Bool} (h : l ≠ []) : 0 < ((rowS l).length : Int) := by rw [rowS_len]; have := prim_len h; omega
theorem le_szl (n : Nat) (h : n ≤ 16777216) : n ≤ sizeLine := by have : sizeLine = 16777216 := sizeLine_eq; omega
theorem le_szl' {n : Nat} (h : n < 16777216) : n < sizeLine := by have : sizeLine = 16777216 := sizeLine_eq; omega
theorem ne_of_new {H : Hp} {a b : Addr} {o : HO} (h : H a = none) (e : H b = some o) : b ≠ a := fun c => by rw [c, h] at e; cases e
theorem ne_of_new' {H : Hp} {a b : Addr} (h : H a = none) (e : ∃ kvs, H b = some (.dK kvs)) : a ≠ b := fun c => by
  obtain ⟨kvs, e⟩ := e
  rw [← c, h] at e
  cases e
end Od
end
section
set_option Elab.async false
set_option linter.all false
namespace Od
open PySem L2
def top (i : Nat) : Stmt := PySem.Challenge.pw_onewaydays_k51_rows_of_charts.main.body.getD i (.Pass ⟨0, 0, 0, 0⟩)
end Od
end
section
set_option Elab.async false
set_option linter.all false
set_option maxRecDepth 100000
set_option maxHeartbeats 2000000
namespace Od
open PySem PySem.Spec PyProof.Rows L2 C8 Day
abbrev s_divisor_of : Stmt := top 9
abbrev N_divisor_of : List Str := ["one", "two"]
abbrev P_divisor_of : List Str := ["one", "two"]
theorem sc_divisor_of : FnScope N_divisor_of P_divisor_of (C8.fnScope s_divisor_of) := fnScope_by (by decide +kernel)
abbrev s_multiple_of : Stmt := top 10
abbrev N_multiple_of : List Str := ["one", "two"]
abbrev P_multiple_of : List Str := ["one", "two"]
theorem sc_multiple_of : FnScope N_multiple_of P_multiple_of (C8.fnScope s_multiple_of) := fnScope_by (by decide +kernel)
abbrev s_root_of : Stmt := top 11
abbrev N_root_of : List Str := ["row", "size"]
abbrev P_root_of : List Str := ["row"]
theorem sc_root_of : FnScope N_root_of P_root_of (C8.fnScope s_root_of) := fnScope_by (by decide +kernel)
abbrev s_turned_row : Stmt := top 12
abbrev N_turned_row : List Str := ["row", "many", "at"]
abbrev P_turned_row : List Str := ["row", "many"]
theorem sc_turned_row : FnScope N_turned_row P_turned_row (C8.fnScope s_turned_row) := fnScope_by (by decide +kernel)
abbrev s_least_form : Stmt := top 13
abbrev N_least_form : List Str := ["left", "low", "middle", "right", "many"]
abbrev P_least_form : List Str := ["left", "low", "middle", "right"]
theorem sc_least_form : FnScope N_least_form P_least_form (C8.fnScope s_least_form) := fnScope_by (by decide +kernel)
abbrev s_bare_form : Stmt := top 14
abbrev N_bare_form : List Str := ["left", "low", "right", "row", "many"]
abbrev P_bare_form : List Str := ["left", "low", "right"]
theorem sc_bare_form : FnScope N_bare_form P_bare_form (C8.fnScope s_bare_form) := fnScope_by (by decide +kernel)
section
variable {P : Program} {w : World} {K : PySem.W.Frag} {mg : Str → Option Value} {base : Heap}
/-! ### divisor_of -/
def gcdI (a b : Int) : Int := ((Nat.gcd a.natAbs b.natAbs : Nat) : Int)
def sp_divisor_of : Sp := fun vs H Q _ => ∃ a b : Int, vs = [.int a, .int b] ∧ Q (.int (gcdI a b)) H
theorem abs_nat (a : Int) : (if a < 0 then -a else a) = (a.natAbs : Int) := by
  by_cases h : a < 0
  · rw [if_pos h]; omega
  · rw [if_neg h]; omega
theorem c_divisor_of (T : Txt K mg) (F : DefOf K mg "divisor_of" s_divisor_of P_divisor_of) : Cal P w K mg base 1 "divisor_of" sp_divisor_of [] := by
  obtain ⟨f, fd, F, B⟩ := F
  refine cal0 F B .nil sc_divisor_of (fun vs H Q E h => by obtain ⟨a, b, rfl, _⟩ := h; rfl) (fun cdv A outer s H vs Q E hr h => ?_)
  obtain ⟨a, b, rfl, q⟩ := h
  have nd := sc_divisor_of.nd
  refine ⟨_, (pss_cons (ps_par (i := 0) (j := 1) (by rfl) nd rfl rfl (by decide) rfl rfl (pa_cons (pe_callB call_abs (by rfl) T.b_abs (by decide +kernel) (pa_cons (pv 0) pa_nil)) (pa_cons (pe_callB call_abs (by rfl) T.b_abs (by decide +kernel) (pa_cons (pv 1) pa_nil)) pa_nil)) (by rfl))
      (C8.pss_cut (ps_while PassesOwn.never (pt_cmpR op_gt (pv 1) pe_int (nomark _)) (pss_one (ps_par (i := 0) (j := 1) (by rfl) nd rfl rfl (by decide) rfl rfl (pa_cons (pv 1) (pa_cons (pe_op op_mod (pv 0) (pv 1)) pa_nil)) (by rfl))))
      (pss_one (ps_ret (pv 0))))), ?_⟩
  refine ⟨_, rfl, _, rfl, _, rfl, _, rfl, _, _, rfl, ?_⟩
  rw [abs_nat, abs_nat]
  refine ⟨fun σ' H' => H' = H ∧ ∃ y, σ' = [some (V.int (gcdI a b)), y], ?_, fun σ' H' ⟨e1, y, e2⟩ => by subst e1; subst e2; exact ⟨_, rfl, q⟩⟩
  refine ⟨fun m σ' H' => ∃ x y : Nat, y = m ∧ σ' = [some (V.int (x : Int)), some (V.int (y : Int))] ∧ H' = H ∧ Nat.gcd x y = Nat.gcd a.natAbs b.natAbs, ⟨_, a.natAbs, b.natAbs, rfl, rfl, rfl, rfl⟩, ?_⟩
  rintro _ σ' H' ⟨x, y, rfl, rfl, rfl, e⟩
  refine ⟨_, rfl, _, _, rfl, rfl, _, rfl, ?_⟩
  refine ite2 (fun c => ?_) (fun c => ?_)
  · have hy : 0 < y := by have := of_decide_eq_true c; omega
    refine ⟨fun σ2 H2 => ∃ x' y' : Nat, y' < y ∧ σ2 = [some (V.int (x' : Int)), some (V.int (y' : Int))] ∧ H2 = H' ∧ Nat.gcd x' y' = Nat.gcd a.natAbs b.natAbs, fun σ2 H2 ⟨x', y', l, z1, z2, z3⟩ => ⟨y', l, x', y', rfl, z1, z2, z3⟩, ?_⟩
    refine ⟨_, rfl, _, rfl, _, rfl, _, _, rfl, rfl, (by show (0 : Int) < (y : Int); omega), _, _, rfl, ?_⟩
    refine ⟨y, x % y, Nat.mod_lt _ hy, by rw [Int.natCast_emod] <;> rfl, rfl, ?_⟩
    rw [← e, Nat.gcd_comm x y, Nat.gcd_rec y x]
    exact Nat.gcd_comm _ _
  · have hy : y = 0 := by
      have : ¬ (0 : Int) < (y : Int) := fun z => c (decide_eq_true z)
      omega
    subst hy
    rw [Nat.gcd_zero_right] at e
    refine ⟨rfl, some (V.int ((0 : Nat) : Int)), ?_⟩
    unfold gcdI
    rw [← e]
/-! ### multiple_of -/
def sp_multiple_of : Sp := fun vs H Q _ => ∃ a b : Nat, vs = [.int (a : Int), .int (b : Int)] ∧ 0 < a ∧ 0 < b ∧ a < 1073741824 ∧ b < 1073741824 ∧ Q (.int ((Nat.lcm a b : Nat) : Int)) H
theorem c_multiple_of (T : Txt K mg) (F : DefOf K mg "multiple_of" s_multiple_of P_multiple_of) (C_divisor_of : Cal P w K mg base 1 "divisor_of" sp_divisor_of []) : Cal P w K mg base 2 "multiple_of" sp_multiple_of [] := by
  obtain ⟨f, fd, F, B⟩ := F
  refine cal0 F B .nil sc_multiple_of (fun vs H Q E h => by obtain ⟨a, b, rfl, _⟩ := h; rfl) (fun cdv A outer s H vs Q E hr h => ?_)
  obtain ⟨a, b, rfl, ha, hb, la, lb, q⟩ := h
  have nd := sc_multiple_of.nd
  refine ⟨_, (pss_one (ps_ret (pe_op op_fdiv (pe_op op_mul (pv 0) (pv 1)) (pe_c C_divisor_of hr (by decide) rfl (pa_cons (pv 0) (pa_cons (pv 1) pa_nil)))))), ?_⟩
  have hg : 0 < Nat.gcd a b := Nat.gcd_pos_of_pos_left _ ha
  have hgl : Nat.gcd a b ≤ a := Nat.le_of_dvd ha (Nat.gcd_dvd_left _ _)
  refine ⟨_, rfl, _, rfl, _, _, rfl, rfl, ?_, _, rfl, _, rfl, (a : Int), (b : Int), rfl, _, _, rfl, rfl, ?_, ?_⟩
  · exact .inl ⟨by omega, by omega⟩
  · unfold gcdI
    rw [Int.natAbs_natCast, Int.natAbs_natCast]
    exact ⟨by omega, by omega⟩
  · have e : (a : Int) * (b : Int) / gcdI a b = ((Nat.lcm a b : Nat) : Int) := by
      unfold gcdI Nat.lcm
      rw [Int.natAbs_natCast, Int.natAbs_natCast, Int.natCast_ediv, Int.natCast_mul]
    show Q (.int ((a : Int) * (b : Int) / gcdI a b)) H
    rw [e]
    exact q
/-! ### root_of -/
def sp_root_of : Sp := fun vs H Q _ => ∃ l : List Bool, vs = [.str (rowS l)] ∧ l ≠ [] ∧ l.length ≤ 4194304 ∧ ∀ s, IsRoot l s → Q (.str (rowS s)) H
theorem root_test (l : List Bool) (t : Nat) (h0 : 1 ≤ t) (ht : t < l.length) : decide (V.int ((l.length : Int) % (t : Int)) = V.int 0) = decide (l.length % t = 0) := by
  by_cases c : l.length % t = 0
  · rw [decide_eq_true c, decide_eq_true]
    rw [← Int.natCast_emod, c]; rfl
  · rw [decide_eq_false c, decide_eq_false]
    intro e
    injection e with e
    rw [← Int.natCast_emod] at e
    exact c (by omega)
theorem c_root_of (T : Txt K mg) (F : DefOf K mg "root_of" s_root_of P_root_of) : Cal P w K mg base 1 "root_of" sp_root_of [] := by
  obtain ⟨f, fd, F, B⟩ := F
  refine cal0 F B .nil sc_root_of (fun vs H Q E h => by obtain ⟨a, rfl, _⟩ := h; rfl) (fun cdv A outer s H vs Q E hr h => ?_)
  obtain ⟨l, rfl, l0, ll, q⟩ := h
  have nd := sc_root_of.nd
  have hsz : (rowS l).length ≤ sizeLine := by rw [rowS_len]; have : sizeLine = 16777216 := sizeLine_eq; omega
  refine ⟨_, (C8.pss_cut (ps_for PassesOwn.never rfl (pi_range2 (by rfl) T.b_range (pa_cons pe_int (pa_cons (pe_callB call_len_str (by rfl) T.b_len (by decide +kernel) (pa_cons (pv 0) pa_nil)) pa_nil))) (pg_name (i := 1) nd rfl (Or.inl rfl)) (pss_one (ps_if (PW.pt (pw_and (pt_cmpR op_eq (pe_op op_mod (pe_callB call_len_str (by rfl) T.b_len (by decide +kernel) (pa_cons (pv 0) pa_nil)) (pv 1)) pe_int (nomark _)) (pw_and1 (pt_cmpR op_eq (pe_op op_mulS (pe_slice sl_str (pv 0) po_none (po_some (pv 1))) (pe_op op_fdiv (pe_callB call_len_str (by rfl) T.b_len (by decide +kernel) (pa_cons (pv 0) pa_nil)) (pv 1))) (pv 0) (nomark _))))) (pss_one (ps_ret (pe_slice sl_str (pv 0) po_none (po_some (pv 1))))) pss_nil)))
      (pss_one (ps_ret (pv 0)))), ?_⟩
  have l1 : 0 < l.length := prim_len l0
  refine ⟨fun σ' H' => H' = H ∧ (∃ x, σ' = [some (.str (rowS l)), x]) ∧ ∀ t, 1 ≤ t → t < l.length → ¬ Root l t, ?_, fun σ' H' ⟨e1, ⟨x, e2⟩, hb⟩ => by subst e1; subst e2; exact ⟨_, rfl, q l (isRoot_self l0 hb)⟩⟩
  refine ⟨_, rfl, _, rfl, hsz, _, _, rfl, ?_, ?_⟩
  · rw [rowS_len]; exact ⟨by decide, by decide, by omega, by omega⟩
  rw [rowS_len]
  have en : ((l.length : Int) - 1).toNat = l.length - 1 := by omega
  rw [en]
  refine for_range (fun i σ' H' => H' = H ∧ (∃ x, σ' = [some (.str (rowS l)), x]) ∧ ∀ t, 1 ≤ t → t < 1 + i → ¬ Root l t) ⟨rfl, ⟨_, rfl⟩, fun t h1 h2 => by omega⟩ ?_ ?_
  · rintro i σ' H' hi ⟨rfl, ⟨x, rfl⟩, hb⟩
    have et : (1 : Int) + (i : Int) = ((1 + i : Nat) : Int) := by omega
    rw [et]
    have ht : 1 + i < l.length := by omega
    have cp : ((1 + i : Nat) : Int) > 0 := by omega
    refine ⟨_, rfl, _, rfl, hsz, _, rfl, _, _, rfl, rfl, cp, rfl, _, rfl, ?_⟩
    rw [rowS_len]
    show if decide (V.int ((l.length : Int) % ((1 + i : Nat) : Int)) = V.int 0) = true then _ else _
    rw [root_test l _ (by omega) ht]
    refine ite2 (fun c => ?_) (fun c => ?_)
    · have hm : l.length % (1 + i) = 0 := of_decide_eq_true c
      have hq : 1 ≤ l.length / (1 + i) := (Nat.le_div_iff_mul_le (by omega)).mpr (by omega)
      have hq2 : l.length / (1 + i) ≤ l.length := Nat.div_le_self _ _
      have hm2 : (1 + i) * (l.length / (1 + i)) = l.length := by
        have := Nat.div_add_mod l.length (1 + i); omega
      have cd : CDiv (l.length : Int) ((1 + i : Nat) : Int) := ⟨by omega, by omega⟩
      refine ⟨_, rfl, _, rfl, _, rfl, _, rfl, hsz, _, rfl, _, rfl, hsz, _, rfl, _, _, rfl, rfl, by rw [rowS_len]; exact cd, _, l.length / (1 + i), rfl, ?_, ?_, ?_, _, rfl, rfl, _, rfl, ?_⟩
      · rw [rowS_len, Int.natCast_ediv]
      · rw [rowS_to l _ (by omega), rowS_len, List.length_take, Nat.min_eq_left (by omega), hm2]
        omega
      · omega
      · rw [rowS_to l _ (by omega), rowS_mul, rowS_dec]
        refine ite2 (fun c2 => ?_) (fun c2 => ?_)
        · have hr : Root l (1 + i) := ⟨hm, of_decide_eq_true c2⟩
          refine ⟨_, rfl, _, rfl, _, rfl, _, rfl, hsz, ?_⟩
          rw [rowS_to l _ (by omega)]
          exact q _ (isRoot_take (by omega) ht hr fun t h1 h2 => hb t h1 h2)
        · refine ⟨rfl, ⟨_, rfl⟩, fun t h1 h2 => ?_⟩
          by_cases e : t = 1 + i
          · subst e
            exact fun r => c2 (decide_eq_true r.2)
          · exact hb t h1 (by omega)
    · refine ⟨rfl, ⟨_, rfl⟩, fun t h1 h2 => ?_⟩
      by_cases e : t = 1 + i
      · subst e
        exact fun r => c (decide_eq_true r.1)
      · exact hb t h1 (by omega)
  · rintro σ' H' ⟨rfl, ⟨x, rfl⟩, hb⟩
    exact ⟨rfl, ⟨_, rfl⟩, fun t h1 h2 => hb t h1 (by omega)⟩
/-! ### turned_row -/
def sp_turned_row : Sp := fun vs H Q _ => ∃ (l : List Bool) (k : Int), vs = [.str (rowS l), .int k] ∧ l ≠ [] ∧ l.length ≤ 4194304 ∧ Q (.str (rowS (turn l k))) H
theorem c_turned_row (T : Txt K mg) (F : DefOf K mg "turned_row" s_turned_row P_turned_row) : Cal P w K mg base 1 "turned_row" sp_turned_row [] := by
  obtain ⟨f, fd, F, B⟩ := F
  refine cal0 F B .nil sc_turned_row (fun vs H Q E h => by obtain ⟨a, b, rfl, _⟩ := h; rfl) (fun cdv A outer s H vs Q E hr h => ?_)
  obtain ⟨l, k, rfl, l0, ll, q⟩ := h
  have nd := sc_turned_row.nd
  have hsz := szl ll
  refine ⟨_, (pss_cons (ps_set (i := 2) nd rfl (Or.inl rfl) (pe_op op_mod (pv 1) (pe_callB call_len_str (by rfl) T.b_len (by decide +kernel) (pa_cons (pv 0) pa_nil))))
      (pss_one (ps_ret (pe_op op_add_str (pe_slice sl_str (pv 0) (po_some (pv 2)) po_none) (pe_slice sl_str (pv 0) po_none (po_some (pv 2))))))), ?_⟩
  refine ⟨_, rfl, _, rfl, _, rfl, hsz, _, _, rfl, rfl, posl l0, ?_⟩
  rw [rowS_len]
  have l1 := prim_len l0
  have hk : k % (l.length : Int) = ((k % (l.length : Int)).toNat : Int) := by have := Int.emod_nonneg k (show (l.length : Int) ≠ 0 by omega); omega
  have hk2 : (k % (l.length : Int)).toNat ≤ l.length := by have := Int.emod_lt_of_pos k (show (0 : Int) < (l.length : Int) by omega); omega
  refine ⟨_, rfl, _, rfl, _, rfl, _, rfl, hsz, _, rfl, _, rfl, _, rfl, _, rfl, hsz, _, _, rfl, rfl, ?_, ?_⟩
  · rw [hk, rowS_from l _ hk2, rowS_to l _ hk2, rowS_len, rowS_len, List.length_drop, List.length_take]
    have : sizeLine = 16777216 := sizeLine_eq
    omega
  · have e : cutS (rowS l) (some (k % (l.length : Int))) none ++ cutS (rowS l) none (some (k % (l.length : Int))) = rowS (turn l k) := by
      rw [hk, rowS_from l _ hk2, rowS_to l _ hk2, rowS_cat]
      rfl
    show Q (.str (cutS (rowS l) (some (k % (l.length : Int))) none ++ cutS (rowS l) none (some (k % (l.length : Int))))) H
    rw [e]
    exact q
/-! ### bare_form -/
structure Sz (F : Frm) : Prop where
  l : F.l.length ≤ 4194304
  m : F.m.length ≤ 4194304
  r : F.r.length ≤ 4194304
def frmV (F : Frm) : List V := [.str (rowS F.l), .int F.low, .str (rowS F.m), .str (rowS F.r)]
/-- a new tuple with the least form of what l, low, m, r tell -/
def toForm (l : List Bool) (low : Int) (m r : List Bool) (H : Hp) (Q : VK) : Prop := ∀ F, Least F → (∀ n, F.mem n = (Frm.mk l low m r).mem n) → Sz F → ∀ p H', Le H H' → H' p = some (.tup (frmV F)) → Q (.ref p) H'
def sp_bare_form : Sp := fun vs H Q _ => ∃ (l : List Bool) (low : Int) (r : List Bool), vs = [.str (rowS l), .int low, .str (rowS r)] ∧ l ≠ [] ∧ r ≠ [] ∧ Prim l ∧ Prim r ∧ l.length ≤ 4194304 ∧ r.length ≤ 4194304 ∧ toForm l low [] r H Q
theorem c_bare_form (T : Txt K mg) (F : DefOf K mg "bare_form" s_bare_form P_bare_form) (C_turned_row : Cal P w K mg base 1 "turned_row" sp_turned_row []) : Cal P w K mg base 2 "bare_form" sp_bare_form [] := by
  obtain ⟨f, fd, F, B⟩ := F
  refine cal0 F B .nil sc_bare_form (fun vs H Q E h => by obtain ⟨a, b, c, rfl, _⟩ := h; rfl) (fun cdv A outer s H vs Q E hr h => ?_)
  obtain ⟨l, low, r, rfl, l0, r0, pl, pr, ll, lr, q⟩ := h
  have nd := sc_bare_form.nd
  have hl := szl ll
  have hrr := szl lr
  refine ⟨_, (pss_cons (ps_if (pt_cmpR op_eq (pv 0) (pv 2) (nomark _)) (pss_cons (ps_set (i := 3) nd rfl (Or.inl rfl) (pe_c C_turned_row hr (by decide) rfl (pa_cons (pv 2) (pa_cons (pe_un un_neg (pv 1)) pa_nil))))
      (pss_one (ps_ret (pe_tup (pa_cons (pv 3) (pa_cons pe_int (pa_cons pe_str (pa_cons (pv 3) pa_nil)))))))) pss_nil)
      (pss_cons (ps_set (i := 4) nd rfl (Or.inl rfl) pe_int)
      (C8.pss_cut (ps_while PassesOwn.never (pt_cmpR op_eq (pe_ix ix_str (pv 0) (pe_op op_sub (pe_un un_neg pe_int) (pe_op op_mod (pv 4) (pe_callB call_len_str (by rfl) T.b_len (by decide +kernel) (pa_cons (pv 0) pa_nil)))) (fun _ _ => rfl)) (pe_ix ix_str (pv 2) (pe_op op_sub (pe_un un_neg pe_int) (pe_op op_mod (pv 4) (pe_callB call_len_str (by rfl) T.b_len (by decide +kernel) (pa_cons (pv 2) pa_nil)))) (fun _ _ => rfl)) (nomark _)) (pss_one (ps_aug (i := 4) nd rfl (Or.inl rfl) pe_int ip_add)))
      (pss_one (ps_ret (pe_tup (pa_cons (pe_c C_turned_row hr (by decide) rfl (pa_cons (pv 0) (pa_cons (pe_un un_neg (pv 4)) pa_nil))) (pa_cons (pe_op op_sub (pv 1) (pv 4)) (pa_cons pe_str (pa_cons (pe_c C_turned_row hr (by decide) rfl (pa_cons (pv 2) (pa_cons (pe_un un_neg (pv 4)) pa_nil))) pa_nil)))))))))), ?_⟩
  refine ⟨_, rfl, _, rfl, rfl, _, rfl, ?_⟩
  rw [rowS_dec]
  refine ite2 (fun c => ?_) (fun c => ?_)
  · have e : l = r := of_decide_eq_true c
    subst e
    refine ⟨_, rfl, _, rfl, _, rfl, _, _, rfl, l0, ll, ?_⟩
    refine ⟨_, rfl, _, rfl, ?_, ?_⟩
    · exact le_szl 4 (by decide)
    · intro p hp
      have L := least_bare_all low l0 pl
      refine q _ L.1 L.2 ⟨by show (turn l _).length ≤ _; rw [turn_len]; exact ll, Nat.zero_le _, by show (turn l _).length ≤ _; rw [turn_len]; exact ll⟩ p _ (Le.new hp) ?_
      rw [upd_self]
      show _ = some (HO.tup [.str (rowS (turn l (-low))), .int 0, .str (rowS []), .str (rowS (turn l (-low)))])
      rw [rowS_nil]
  · have ne : l ≠ r := fun e => c (decide_eq_true e)
    obtain ⟨i0, hi0, hd⟩ := bare_part l0 r0 pl pr ne
    refine ⟨fun σ' H' => ∃ k : Nat, σ' = [some (.str (rowS l)), some (.int low), some (.str (rowS r)), none, some (.int (k : Int))] ∧ H' = H ∧ (∀ i, i < k → cyc l (-1 - (i : Int)) = cyc r (-1 - (i : Int))) ∧ cyc l (-1 - (k : Int)) ≠ cyc r (-1 - (k : Int)), ?_, ?_⟩
    rotate_left
    · rintro σ' H' ⟨k, rfl, rfl, hb, hk⟩
      refine ⟨_, rfl, _, rfl, _, rfl, _, _, rfl, l0, ll, ?_⟩
      refine ⟨_, rfl, _, rfl, _, _, rfl, rfl, _, rfl, _, rfl, _, rfl, _, _, rfl, r0, lr, ?_, ?_⟩
      · exact le_szl 4 (by decide)
      · intro p hp
        have L := least_bare low l0 r0 pl pr hb hk
        refine q _ L.1 L.2 ⟨by show (turn l _).length ≤ _; rw [turn_len]; exact ll, Nat.zero_le _, by show (turn r _).length ≤ _; rw [turn_len]; exact lr⟩ p _ (Le.new hp) ?_
        rw [upd_self]
        show _ = some (HO.tup [.str (rowS (turn l (-(k : Int)))), .int (low - k), .str (rowS []), .str (rowS (turn r (-(k : Int))))])
        rw [rowS_nil]
    refine ⟨fun m σ' H' => ∃ k : Nat, m = i0 - k ∧ σ' = [some (.str (rowS l)), some (.int low), some (.str (rowS r)), none, some (.int (k : Int))] ∧ H' = H ∧ ∀ i, i < k → cyc l (-1 - (i : Int)) = cyc r (-1 - (i : Int)), ⟨_, 0, rfl, rfl, rfl, fun i hi => absurd hi (Nat.not_lt_zero _)⟩, ?_⟩
    rintro m σ' H' ⟨k, rfl, rfl, rfl, hb⟩
    refine ⟨_, rfl, _, rfl, _, rfl, _, rfl, _, rfl, hl, _, _, rfl, rfl, posl l0, _, _, rfl, rfl, _, _, _, rfl, rfl, hl, by rw [rowS_len]; exact rowS_back l0 _, _, rfl, _, rfl, _, rfl, _, rfl, _, rfl, hrr, _, _, rfl, rfl, posl r0, _, _, rfl, rfl, _, _, _, rfl, rfl, hrr, by rw [rowS_len]; exact rowS_back r0 _, rfl, _, rfl, ?_⟩
    rw [sgn_dec]
    refine ite2 (fun c => ?_) (fun c => ?_)
    · have hk : cyc l (-1 - (k : Int)) = cyc r (-1 - (k : Int)) := of_decide_eq_true c
      have hlt : k < i0 := by
        rcases Nat.lt_trichotomy k i0 with h | h | h
        · exact h
        · subst h; exact absurd hk hd
        · exact absurd (hb i0 h) hd
      refine ⟨fun σ2 H2 => ∃ k2 : Nat, k2 = k + 1 ∧ σ2 = [some (.str (rowS l)), some (.int low), some (.str (rowS r)), none, some (.int (k2 : Int))] ∧ H2 = H', fun σ2 H2 ⟨k2, e, z1, z2⟩ => ⟨i0 - k2, by omega, k2, rfl, z1, z2, fun i hi => by
        by_cases e2 : i = k
        · subst e2; exact hk
        · exact hb i (by omega)⟩, ?_⟩
      refine ⟨_, rfl, _, _, rfl, rfl, ?_⟩
      exact ⟨k + 1, rfl, rfl, rfl⟩
    · have hk : cyc l (-1 - (k : Int)) ≠ cyc r (-1 - (k : Int)) := fun e => c (decide_eq_true e)
      exact ⟨k, rfl, rfl, hb, hk⟩
/-! ### least_form -/
theorem mem_alike {l l' m r r' : List Bool} {low : Int} (hl : ∀ z, cyc l' z = cyc l z) (hr : ∀ z, cyc r' z = cyc r z) (n : Int) : (Frm.mk l' low m r').mem n = (Frm.mk l low m r).mem n := by
  unfold Frm.mem Frm.high
  simp only [hl, hr]
theorem _root_.Day.IsRoot.len {l s : List Bool} (h : IsRoot l s) (l0 : l ≠ []) : s.length ≤ l.length := by
  have h1 := prim_len l0
  have := h.pr (l.length : Int) (by omega) (fun z => by rw [h.eq, h.eq, cyc_per])
  omega
def sp_least_form : Sp := fun vs H Q _ => ∃ (l : List Bool) (low : Int) (m r : List Bool), vs = [.str (rowS l), .int low, .str (rowS m), .str (rowS r)] ∧ l ≠ [] ∧ r ≠ [] ∧ l.length ≤ 4194304 ∧ m.length ≤ 4194304 ∧ r.length ≤ 4194304 ∧ toForm l low m r H Q
theorem c_least_form (T : Txt K mg) (F : DefOf K mg "least_form" s_least_form P_least_form) (C_root_of : Cal P w K mg base 1 "root_of" sp_root_of []) (C_turned_row : Cal P w K mg base 1 "turned_row" sp_turned_row []) (C_bare_form : Cal P w K mg base 2 "bare_form" sp_bare_form []) : Cal P w K mg base 3 "least_form" sp_least_form [] := by
  obtain ⟨f, fd, F, B⟩ := F
  refine cal0 F B .nil sc_least_form (fun vs H Q E h => by obtain ⟨a, b, c, d, rfl, _⟩ := h; rfl) (fun cdv A outer s H vs Q E hr h => ?_)
  obtain ⟨l, low, m, r, rfl, l0, r0, ll, lm, lr, q⟩ := h
  have nd := sc_least_form.nd
  refine ⟨_, (pss_cons (ps_par (i := 0) (j := 3) (by rfl) nd rfl rfl (by decide) rfl rfl (pa_cons (pe_c C_root_of hr (by decide) rfl (pa_cons (pv 0) pa_nil)) (pa_cons (pe_c C_root_of hr (by decide) rfl (pa_cons (pv 3) pa_nil)) pa_nil)) (by rfl))
      (pss_cons (ps_set (i := 4) nd rfl (Or.inl rfl) pe_int)
      (C8.pss_cut (ps_while PassesOwn.never (PW.pt (pw_and (pt_cmpR op_lt (pv 4) (pe_callB call_len_str (by rfl) T.b_len (by decide +kernel) (pa_cons (pv 2) pa_nil)) (nomark _)) (pw_and1 (pt_cmpR op_eq (pe_ix ix_str (pv 2) (pe_op op_sub (pe_op op_sub (pe_callB call_len_str (by rfl) T.b_len (by decide +kernel) (pa_cons (pv 2) pa_nil)) pe_int) (pv 4)) (fun _ _ => rfl)) (pe_ix ix_str (pv 3) (pe_op op_sub (pe_un un_neg pe_int) (pe_op op_mod (pv 4) (pe_callB call_len_str (by rfl) T.b_len (by decide +kernel) (pa_cons (pv 3) pa_nil)))) (fun _ _ => rfl)) (nomark _))))) (pss_one (ps_aug (i := 4) nd rfl (Or.inl rfl) pe_int ip_add)))
      (pss_cons (ps_set (i := 2) nd rfl (Or.inl rfl) (pe_slice sl_str (pv 2) po_none (po_some (pe_op op_sub (pe_callB call_len_str (by rfl) T.b_len (by decide +kernel) (pa_cons (pv 2) pa_nil)) (pv 4)))))
      (pss_cons (ps_set (i := 3) nd rfl (Or.inl rfl) (pe_c C_turned_row hr (by decide) rfl (pa_cons (pv 3) (pa_cons (pe_un un_neg (pv 4)) pa_nil))))
      (pss_cons (ps_if (pt_cmpR op_eq (pv 2) pe_str (nomark _)) (pss_one (ps_ret (pe_c C_bare_form hr (by decide) rfl (pa_cons (pv 0) (pa_cons (pv 1) (pa_cons (pv 3) pa_nil)))))) pss_nil)
      (pss_cons (ps_set (i := 4) nd rfl (Or.inl rfl) pe_int)
      (C8.pss_cut (ps_while PassesOwn.never (PW.pt (pw_and (pt_cmpR op_lt (pv 4) (pe_callB call_len_str (by rfl) T.b_len (by decide +kernel) (pa_cons (pv 2) pa_nil)) (nomark _)) (pw_and1 (pt_cmpR op_eq (pe_ix ix_str (pv 2) (pv 4) (fun _ _ => rfl)) (pe_ix ix_str (pv 0) (pe_op op_mod (pv 4) (pe_callB call_len_str (by rfl) T.b_len (by decide +kernel) (pa_cons (pv 0) pa_nil))) (fun _ _ => rfl)) (nomark _))))) (pss_one (ps_aug (i := 4) nd rfl (Or.inl rfl) pe_int ip_add)))
      (pss_one (ps_ret (pe_tup (pa_cons (pe_c C_turned_row hr (by decide) rfl (pa_cons (pv 0) (pa_cons (pv 4) pa_nil))) (pa_cons (pe_op op_add (pv 1) (pv 4)) (pa_cons (pe_slice sl_str (pv 2) (po_some (pv 4)) po_none) (pa_cons (pv 3) pa_nil))))))))))))))), ?_⟩
  refine ⟨_, rfl, l, rfl, l0, ll, fun l' hl' => ?_⟩
  refine ⟨_, rfl, r, rfl, r0, lr, fun r' hr' => ?_⟩
  refine ⟨_, _, rfl, ?_⟩
  have sl := szl (Nat.le_trans (hl'.len l0) ll)
  have sm := szl lm
  have sr := szl (Nat.le_trans (hr'.len r0) lr)
  refine ⟨fun σ' H' => ∃ k : Nat, σ' = [some (.str (rowS l')), some (.int low), some (.str (rowS m)), some (.str (rowS r')), some (.int (k : Int))] ∧ H' = H ∧ k ≤ m.length ∧ (∀ i, i < k → m.getD (m.length - 1 - i) false = cyc r' (-1 - (i : Int))) ∧ (k = m.length ∨ m.getD (m.length - 1 - k) false ≠ cyc r' (-1 - (k : Int))), ?_, ?_⟩
  · refine ⟨fun n σ' H' => ∃ k : Nat, n = m.length - k ∧ σ' = [some (.str (rowS l')), some (.int low), some (.str (rowS m)), some (.str (rowS r')), some (.int (k : Int))] ∧ H' = H ∧ k ≤ m.length ∧ (∀ i, i < k → m.getD (m.length - 1 - i) false = cyc r' (-1 - (i : Int))), ⟨_, 0, rfl, rfl, rfl, Nat.zero_le _, fun i hi => absurd hi (Nat.not_lt_zero _)⟩, ?_⟩
    rintro n σ' H' ⟨k, rfl, rfl, rfl, hk, hb⟩
    refine ⟨_, rfl, _, rfl, _, rfl, sm, _, _, rfl, rfl, _, rfl, ?_⟩
    rw [rowS_len]
    refine ite2 (fun c => ?_) (fun c => ?_)
    · have hlt : k < m.length := by have := of_decide_eq_true c; omega
      have ei : ((m.length : Int) - 1 - (k : Int)) = ((m.length - 1 - k : Nat) : Int) := by omega
      refine ⟨_, rfl, _, rfl, _, rfl, sm, _, _, rfl, rfl, _, rfl, _, _, rfl, rfl, _, _, _, rfl, rfl, sm, by rw [rowS_len, ei]; exact rowS_at (by omega), _, rfl, _, rfl, _, rfl, _, rfl, _, rfl, sr, _, _, rfl, rfl, posl hr'.ne, _, _, rfl, rfl, _, _, _, rfl, rfl, sr, by rw [rowS_len]; exact rowS_back hr'.ne _, rfl, _, rfl, ?_⟩
      rw [sgn_dec]
      refine ite2 (fun c2 => ?_) (fun c2 => ?_)
      · have e2 := of_decide_eq_true c2
        refine ⟨fun σ2 H2 => ∃ k2 : Nat, k2 = k + 1 ∧ σ2 = [some (.str (rowS l')), some (.int low), some (.str (rowS m)), some (.str (rowS r')), some (.int (k2 : Int))] ∧ H2 = H', fun σ2 H2 ⟨k2, e, z1, z2⟩ => ⟨m.length - k2, by omega, k2, rfl, z1, z2, by omega, fun i hi => by
          by_cases e3 : i = k
          · subst e3; exact e2
          · exact hb i (by omega)⟩, ?_⟩
        exact ⟨_, rfl, _, _, rfl, rfl, k + 1, rfl, rfl, rfl⟩
      · exact ⟨k, rfl, rfl, hk, hb, .inr fun e => c2 (decide_eq_true e)⟩
    · have he : k = m.length := by
        have : ¬ ((k : Int) < (m.length : Int)) := fun h => c (decide_eq_true h)
        omega
      exact ⟨k, rfl, rfl, hk, hb, .inl he⟩
  rintro σ' H' ⟨k, rfl, rfl, hk, hb, he⟩
  have ek : ((m.length : Int) - (k : Int)) = ((m.length - k : Nat) : Int) := by omega
  refine ⟨_, rfl, _, rfl, _, rfl, sm, _, rfl, _, _, rfl, rfl, _, rfl, _, rfl, sm, ?_⟩
  rw [rowS_len]
  have ec : cutS (rowS m) none (some ((m.length : Int) - (k : Int))) = rowS (m.take (m.length - k)) := by rw [ek]; exact rowS_to m _ (by omega)
  show tSeq _ _ _ _ _
  rw [ec]
  have ml : (m.take (m.length - k)).length = m.length - k := by rw [List.length_take]; omega
  refine ⟨_, rfl, _, rfl, _, rfl, r', -(k : Int), rfl, hr'.ne, Nat.le_trans (hr'.len r0) lr, ?_⟩
  have r2n : turn r' (-(k : Int)) ≠ [] := turn_ne hr'.ne
  have r2p : Prim (turn r' (-(k : Int))) := turn_prim hr'.ne _ hr'.pr
  have r2l : (turn r' (-(k : Int))).length ≤ 4194304 := by rw [turn_len]; exact Nat.le_trans (hr'.len r0) lr
  have m1 : ∀ n, (Frm.mk l' low (m.take (m.length - k)) (turn r' (-(k : Int)))).mem n = (Frm.mk l low m r).mem n := fun n => by
    rw [mem_back hr'.ne hk hb, mem_alike hl'.eq hr'.eq]
  refine ⟨_, rfl, rfl, _, rfl, ?_⟩
  have ed : decide (V.str (rowS (m.take (m.length - k))) = V.str ("" : Str)) = decide (m.take (m.length - k) = []) := by rw [← rowS_nil, rowS_dec]
  show if decide (V.str (rowS (m.take (m.length - k))) = V.str ("" : Str)) = true then _ else _
  rw [ed]
  refine ite2 (fun c => ?_) (fun c => ?_)
  · have e : m.take (m.length - k) = [] := of_decide_eq_true c
    refine ⟨_, rfl, _, rfl, _, rfl, l', low, _, rfl, hl'.ne, r2n, hl'.pr, r2p, Nat.le_trans (hl'.len l0) ll, r2l, fun F hF hm hz p H2 le e2 => q F hF (fun n => ?_) hz p H2 le e2⟩
    rw [hm, ← m1, e]
  have m0 : m.take (m.length - k) ≠ [] := fun e => c (decide_eq_true e)
  have hkl : k < m.length := by
    rcases he with e | _
    · exfalso; apply m0; apply List.eq_nil_of_length_eq_zero; omega
    · rcases Nat.lt_or_ge k m.length with h | h
      · exact h
      · exfalso; apply m0; apply List.eq_nil_of_length_eq_zero; omega
  have hodd : (m.take (m.length - k)).getD ((m.take (m.length - k)).length - 1) false ≠ cyc (turn r' (-(k : Int))) (-1) := by
    rw [ml, take_getD m (by omega), turn_cyc hr'.ne]
    rcases he with e | e
    · omega
    · rw [show m.length - k - 1 = m.length - 1 - k by omega, show (-1 : Int) + -(k : Int) = -1 - (k : Int) by omega]
      exact e
  have sm' : (rowS (m.take (m.length - k))).length ≤ sizeLine := szl (by rw [ml]; omega)
  have lm' : (m.take (m.length - k)).length ≤ 4194304 := by rw [ml]; omega
  generalize hM : m.take (m.length - k) = M at *
  generalize hR : turn r' (-(k : Int)) = R at *
  refine ⟨fun σ' H2 => ∃ j : Nat, σ' = [some (.str (rowS l')), some (.int low), some (.str (rowS M)), some (.str (rowS R)), some (.int (j : Int))] ∧ H2 = H' ∧ j ≤ M.length ∧ (∀ i, i < j → M.getD i false = cyc l' (i : Int)) ∧ (j = M.length ∨ M.getD j false ≠ cyc l' (j : Int)), ?_, ?_⟩
  · refine ⟨fun n σ' H2 => ∃ j : Nat, n = M.length - j ∧ σ' = [some (.str (rowS l')), some (.int low), some (.str (rowS M)), some (.str (rowS R)), some (.int (j : Int))] ∧ H2 = H' ∧ j ≤ M.length ∧ (∀ i, i < j → M.getD i false = cyc l' (i : Int)), ⟨_, 0, rfl, rfl, rfl, Nat.zero_le _, fun i hi => absurd hi (Nat.not_lt_zero _)⟩, ?_⟩
    rintro n σ' H2 ⟨j, rfl, rfl, rfl, hj, hb2⟩
    refine ⟨_, rfl, _, rfl, _, rfl, sm', _, _, rfl, rfl, _, rfl, ?_⟩
    rw [rowS_len]
    refine ite2 (fun c => ?_) (fun c => ?_)
    · have hlt : j < M.length := by have := of_decide_eq_true c; omega
      refine ⟨_, rfl, _, rfl, _, _, _, rfl, rfl, sm', rowS_at hlt, _, rfl, _, rfl, _, rfl, _, rfl, sl, _, _, rfl, rfl, posl hl'.ne, _, _, _, rfl, rfl, sl, by rw [rowS_len]; exact rowS_cyc hl'.ne _, rfl, _, rfl, ?_⟩
      rw [sgn_dec]
      refine ite2 (fun c2 => ?_) (fun c2 => ?_)
      · have e2 := of_decide_eq_true c2
        refine ⟨fun σ2 H3 => ∃ k2 : Nat, k2 = j + 1 ∧ σ2 = [some (.str (rowS l')), some (.int low), some (.str (rowS M)), some (.str (rowS R)), some (.int (k2 : Int))] ∧ H3 = H2, fun σ2 H3 ⟨k2, e, z1, z2⟩ => ⟨M.length - k2, by omega, k2, rfl, z1, z2, by omega, fun i hi => by
          by_cases e3 : i = j
          · subst e3; exact e2
          · exact hb2 i (by omega)⟩, ?_⟩
        exact ⟨_, rfl, _, _, rfl, rfl, j + 1, rfl, rfl, rfl⟩
      · exact ⟨j, rfl, rfl, hj, hb2, .inr fun e => c2 (decide_eq_true e)⟩
    · have he : j = M.length := by
        have : ¬ ((j : Int) < (M.length : Int)) := fun h => c (decide_eq_true h)
        omega
      exact ⟨j, rfl, rfl, hj, hb2, .inl he⟩
  rintro σ' H2 ⟨j, rfl, rfl, hj, hb2, he2⟩
  have L := least_mid low hl'.ne r2n hl'.pr r2p m0 hodd hj hb2 he2
  refine ⟨_, rfl, _, rfl, l', (j : Int), rfl, hl'.ne, Nat.le_trans (hl'.len l0) ll, ?_⟩
  refine ⟨_, rfl, _, rfl, _, _, rfl, rfl, _, rfl, _, rfl, _, rfl, _, rfl, sm', _, rfl, le_szl 4 (by decide), fun p hp => ?_⟩
  refine q _ L.1 (fun n => by rw [L.2, m1]) ⟨by show (turn l' _).length ≤ _; rw [turn_len]; exact Nat.le_trans (hl'.len l0) ll, by show (M.drop j).length ≤ _; rw [List.length_drop]; omega, r2l⟩ p _ (Le.new hp) ?_
  rw [upd_self]
  show _ = some (HO.tup [.str (rowS (turn l' (j : Int))), .int (low + (j : Int)), .str (rowS (M.drop j)), .str (rowS R)])
  rw [← rowS_from M j hj]
end
end Od
end
section
set_option Elab.async false
set_option linter.all false
set_option maxRecDepth 100000
set_option maxHeartbeats 2000000
set_option autoImplicit false
namespace Od
open PySem PySem.Spec PyProof.Rows L2 C8 Day
/-- what the text has written of the class DaySet -/
structure DSC (K : PySem.W.Frag) (mg : Str → Option Value) (C : Addr) : Prop where
  cl : Cls K C
  c : mg "DaySet" = some (.ref C)
  g : ∃ u, mg "DaySet" = some u ∧ L2.RelV (.ref C) u
  n_left : NoAttr K C "left"
  n_low : NoAttr K C "low"
  n_middle : NoAttr K C "middle"
  n_right : NoAttr K C "right"
  n_high : NoAttr K C "high"
  sf : PySem.W.selfFirst K C = true
  ne : PySem.W.findIn K (.ref C) "__ne__" = some (some (.builtin "object.__ne__"))
  ob : PySem.W.mroIn K C (.type "object") = some true
  ha : PySem.W.findIn K (.ref C) "__class__" = some (some (.builtin "object.__class__"))
  hn : PySem.W.specialIn K (.builtin "object.__class__") "__get__" = some (some (.builtin "getset_descriptor.__get__"))
  htk : PySem.W.takesIn K (.builtin "object.__class__") = some true
  isi : PySem.W.kitOne K (.ref C) (.ref C) = some true
  si : PySem.W.subIn K (.type "int") (.ref C) = some false
  r_rshift : PySem.W.findIn K (.ref C) (dunderR "rshift") = some none
  r_lshift : PySem.W.findIn K (.ref C) (dunderR "lshift") = some none
  i_rshift : PySem.W.findIn K (.type "int") (PySem.dunder "rshift") = some (some (.builtin "int.__rshift__"))
  i_lshift : PySem.W.findIn K (.type "int") (PySem.dunder "lshift") = some (some (.builtin "int.__lshift__"))
  i_rrshift : PySem.W.findIn K (.type "int") (dunderR "rshift") = some (some (.builtin "int.__rrshift__"))
  i_rlshift : PySem.W.findIn K (.type "int") (dunderR "lshift") = some (some (.builtin "int.__rlshift__"))
def fldF (F : Frm) : List (Str × V) := [("left", .str (rowS F.l)), ("low", .int F.low), ("middle", .str (rowS F.m)), ("right", .str (rowS F.r)), ("high", .int F.high)]
theorem f_left (F : Frm) : (fldF F).lookup ("left" : Str) = some (V.str (rowS F.l)) := by rfl
theorem f_low (F : Frm) : (fldF F).lookup ("low" : Str) = some (V.int F.low) := by rfl
theorem f_middle (F : Frm) : (fldF F).lookup ("middle" : Str) = some (V.str (rowS F.m)) := by rfl
theorem f_right (F : Frm) : (fldF F).lookup ("right" : Str) = some (V.str (rowS F.r)) := by rfl
theorem f_high (F : Frm) : (fldF F).lookup ("high" : Str) = some (V.int F.high) := by rfl
/-- the object p is the set of the days n with f n -/
def IsDay (C : Addr) (H : Hp) (p : Addr) (f : Int → Bool) : Prop := ∃ F dx, Least F ∧ Sz F ∧ (∀ n, F.mem n = f n) ∧ H p = some (.ins C dx (fldF F))
theorem IsDay.le {C : Addr} {H H' : Hp} {p : Addr} {f : Int → Bool} (d : IsDay C H p f) (l : Le H H') : IsDay C H' p f := by
  obtain ⟨F, dx, L, z, m, e⟩ := d
  exact ⟨F, dx, L, z, m, l p _ e⟩
theorem IsDay.lx {C : Addr} {H H' : Hp} {D p : Addr} {f : Int → Bool} (d : IsDay C H p f) (l : LeX D H H') (hD : ∃ acc, H D = some (.lst acc)) : IsDay C H' p f := by
  obtain ⟨F, dx, L, z, m, e⟩ := d
  refine ⟨F, dx, L, z, m, l p _ (fun c => ?_) e⟩
  subst c
  obtain ⟨acc, e2⟩ := hD
  rw [e] at e2
  cases e2
theorem IsDay.to {C : Addr} {H : Hp} {p : Addr} {f g : Int → Bool} (d : IsDay C H p f) (h : ∀ n, f n = g n) : IsDay C H p g := by
  obtain ⟨F, dx, L, z, m, e⟩ := d
  exact ⟨F, dx, L, z, fun n => (m n).trans (h n), e⟩
abbrev s_DaySet___init__ : Stmt := inClass (top 16) 0
abbrev N_DaySet___init__ : List Str := ["self", "left", "low", "middle", "right"]
abbrev P_DaySet___init__ : List Str := ["self", "left", "low", "middle", "right"]
theorem sc_DaySet___init__ : FnScope N_DaySet___init__ P_DaySet___init__ (C8.fnScope s_DaySet___init__) := fnScope_by (by decide +kernel)
abbrev s_DaySet_sign : Stmt := inClass (top 16) 8
abbrev N_DaySet_sign : List Str := ["self", "n"]
abbrev P_DaySet_sign : List Str := ["self", "n"]
theorem sc_DaySet_sign : FnScope N_DaySet_sign P_DaySet_sign (C8.fnScope s_DaySet_sign) := fnScope_by (by decide +kernel)
section
variable {P : Program} {w : World} {K : PySem.W.Frag} {mg : Str → Option Value} {base : Heap}
/-! ### __init__ -/
def sp_init (C : Addr) : Sp := fun vs H Q _ => ∃ (x dx : Addr) (l : List Bool) (low : Int) (m r : List Bool), vs = [.ref x, .str (rowS l), .int low, .str (rowS m), .str (rowS r)] ∧ H x = some (.ins C dx []) ∧ l ≠ [] ∧ r ≠ [] ∧ l.length ≤ 4194304 ∧ m.length ≤ 4194304 ∧ r.length ≤ 4194304 ∧
  ∀ F, Least F → (∀ n, F.mem n = (Frm.mk l low m r).mem n) → Sz F → ∀ H', LeX x H H' → H' x = some (.ins C dx (fldF F)) → Q .non H'
theorem k_init {C : Addr} (T : Txt K mg) (D : DSC K mg C) (M : MakOf K C "DaySet.__init__" s_DaySet___init__ P_DaySet___init__) (C_least_form : Cal P w K mg base 3 "least_form" sp_least_form []) : Mak P w K mg base 4 "DaySet" C (sp_init C) [] := by
  obtain ⟨f, fd, M, F, B⟩ := M
  refine mak0 M D.c F B .nil sc_DaySet___init__ (fun vs H Q E h => by obtain ⟨_, _, _, _, _, _, rfl, _⟩ := h; rfl) (fun cdv A outer s H vs Q E hr h => ?_)
  obtain ⟨x, dx, l, low, m, r, rfl, hx, l0, r0, ll, lm, lr, q⟩ := h
  have nd := sc_DaySet___init__.nd
  refine ⟨_, (pss_cons (ps_asg (pe_c C_least_form hr (by decide) rfl (pa_cons (pv 1) (pa_cons (pv 2) (pa_cons (pv 3) (pa_cons (pv 4) pa_nil))))) (pg_tup rfl (pgs_cons (pg_fld (pv 0)) (pgs_cons (pg_fld (pv 0)) (pgs_cons (pg_fld (pv 0)) (pgs_cons (pg_fld (pv 0)) pgs_nil))))))
      (pss_one (ps_fld (pv 0) (pe_op op_add (pe_fld (pv 0) rfl) (pe_callB call_len_str (by rfl) T.b_len (by decide +kernel) (pa_cons (pe_fld (pv 0) rfl) pa_nil))) rfl))), ?_⟩
  refine ⟨_, rfl, _, rfl, _, rfl, _, rfl, l, low, m, r, rfl, l0, r0, ll, lm, lr, fun F hF hm hz p H' le e => ?_⟩
  have hx' := le x _ hx
  refine ⟨p, _, rfl, .of e, rfl, ?_⟩
  refine ⟨_, _, rfl, _, rfl, _, _, _, _, rfl, hx', D.cl, D.n_left, by decide, ?_⟩
  refine ⟨_, _, rfl, _, rfl, _, _, _, _, rfl, upd_self, D.cl, D.n_low, lt_put (by decide), ?_⟩
  refine ⟨_, _, rfl, _, rfl, _, _, _, _, rfl, upd_self, D.cl, D.n_middle, lt_put (lt_put (by decide)), ?_⟩
  refine ⟨_, _, rfl, _, rfl, _, _, _, _, rfl, upd_self, D.cl, D.n_right, lt_put (lt_put (lt_put (by decide))), ?_⟩
  refine ⟨rfl, ?_⟩
  refine ⟨_, rfl, _, _, _, _, _, rfl, upd_self, D.cl, D.n_low, by rfl, _, rfl, _, _, _, _, _, rfl, upd_self, D.cl, D.n_middle, by rfl, _, rfl, szl hz.m, _, _, rfl, rfl, _, rfl, _, _, _, _, rfl, upd_self, D.cl, D.n_high, lt_put (lt_put (lt_put (lt_put (by decide)))), ?_⟩
  refine q F hF hm hz _ ?_ ?_
  · exact le.x.upd.upd.upd.upd.upd
  · rw [upd_self]
    simp only [rowS_len]
    rfl
/-- a new set, told by a function -/
theorem make_day {C : Addr} {H : Hp} {Q : VK} {E : XK} (l : List Bool) (low : Int) (m r : List Bool) (f : Int → Bool) (l0 : l ≠ []) (r0 : r ≠ []) (ll : l.length ≤ 4194304) (lm : m.length ≤ 4194304) (lr : r.length ≤ 4194304)
    (hm : ∀ n, (Frm.mk l low m r).mem n = f n) (q : ∀ p H', Le H H' → IsDay C H' p f → H p = none → Q (.ref p) H') :
    ∀ x dx, H x = none → H dx = none → dx ≠ x → sp_init C (.ref x :: ([.str (rowS l), .int low, .str (rowS m), .str (rowS r)] ++ [])) (upd (upd H dx (.own x)) x (.ins C dx [])) (fun v H2 => v = .non ∧ Q (.ref x) H2) E := by
  intro x dx hx hdx ne
  refine ⟨x, dx, l, low, m, r, rfl, upd_self, l0, r0, ll, lm, lr, fun F hF hmm hz H' lx e => ⟨rfl, q x H' (fun a o ha => ?_) ⟨F, dx, hF, hz, fun n => (hmm n).trans (hm n), e⟩ hx⟩⟩
  have c1 : a ≠ x := fun c => by subst c; rw [hx] at ha; cases ha
  have c2 : a ≠ dx := fun c => by subst c; rw [hdx] at ha; cases ha
  exact lx a o c1 (by rw [upd_ne c1, upd_ne c2]; exact ha)
theorem one_len {c : Nat} : (⟨#[c]⟩ : Str).length ≤ 640 := by show 1 ≤ 640; decide
/-! ### sign -/
def sp_sign (C : Addr) : Sp := fun vs H Q _ => ∃ (p : Addr) (n : Int) (f : Int → Bool), vs = [.ref p, .int n] ∧ IsDay C H p f ∧ Q (.int (bi (f n))) H
theorem q_sign {C : Addr} (T : Txt K mg) (D : DSC K mg C) (M : MetOf K C "sign" "DaySet.sign" s_DaySet_sign P_DaySet_sign) : Met P w K mg base 1 C "sign" (sp_sign C) [] := by
  obtain ⟨g, fd, M, F, B⟩ := M
  refine met0 D.cl M F B sc_DaySet_sign (fun vs H Q E h => by obtain ⟨_, _, _, rfl, _⟩ := h; rfl) (fun cdv A outer s H vs Q E hr h => ?_)
  obtain ⟨p, n, f, rfl, ⟨F, dx, L, z, hm, hp⟩, q⟩ := h
  have nd := sc_DaySet_sign.nd
  refine ⟨_, (pss_cons (ps_if (pt_cmpR op_ge (pv 1) (pe_fld (pv 0) rfl) (nomark _)) (pss_one (ps_ret (pe_callTy call_int_str (by rfl) T.b_int (by decide +kernel) (pa_cons (pe_ix ix_str (pe_fld (pv 0) rfl) (pe_op op_mod (pe_op op_sub (pv 1) (pe_fld (pv 0) rfl)) (pe_callB call_len_str (by rfl) T.b_len (by decide +kernel) (pa_cons (pe_fld (pv 0) rfl) pa_nil))) (fun _ _ => rfl)) pa_nil)))) pss_nil)
      (pss_cons (ps_if (pt_cmpR op_lt (pv 1) (pe_fld (pv 0) rfl) (nomark _)) (pss_one (ps_ret (pe_callTy call_int_str (by rfl) T.b_int (by decide +kernel) (pa_cons (pe_ix ix_str (pe_fld (pv 0) rfl) (pe_op op_mod (pe_op op_sub (pv 1) (pe_fld (pv 0) rfl)) (pe_callB call_len_str (by rfl) T.b_len (by decide +kernel) (pa_cons (pe_fld (pv 0) rfl) pa_nil))) (fun _ _ => rfl)) pa_nil)))) pss_nil)
      (pss_one (ps_ret (pe_callTy call_int_str (by rfl) T.b_int (by decide +kernel) (pa_cons (pe_ix ix_str (pe_fld (pv 0) rfl) (pe_op op_sub (pv 1) (pe_fld (pv 0) rfl)) (fun _ _ => rfl)) pa_nil)))))), ?_⟩
  rw [← hm] at q
  refine ⟨_, rfl, _, rfl, _, _, _, _, _, rfl, hp, D.cl, D.n_high, f_high F, _, _, rfl, rfl, _, rfl, ?_⟩
  refine ite2 (fun c => ?_) (fun c => ?_)
  · have c1 : F.high ≤ n := of_decide_eq_true c
    refine ⟨_, rfl, _, _, _, _, _, rfl, hp, D.cl, D.n_right, f_right F, _, rfl, _, rfl, _, _, _, _, _, rfl, hp, D.cl, D.n_high, f_high F, _, _, rfl, rfl, _, rfl, _, _, _, _, _, rfl, hp, D.cl, D.n_right, f_right F, _, rfl, szl z.r, _, _, rfl, rfl, posl L.r0, _, _, _, rfl, rfl, szl z.r, by rw [rowS_len]; exact rowS_cyc L.r0 _, _, _, rfl, int_sgn _, one_len, ?_⟩
    rw [F.mem_up c1] at q
    exact q
  have c1 : n < F.high := by
    have : ¬ F.high ≤ n := fun h => c (decide_eq_true h)
    omega
  refine ⟨_, rfl, _, rfl, _, _, _, _, _, rfl, hp, D.cl, D.n_low, f_low F, _, _, rfl, rfl, _, rfl, ?_⟩
  refine ite2 (fun c2 => ?_) (fun c2 => ?_)
  · have c3 : n < F.low := of_decide_eq_true c2
    refine ⟨_, rfl, _, _, _, _, _, rfl, hp, D.cl, D.n_left, f_left F, _, rfl, _, rfl, _, _, _, _, _, rfl, hp, D.cl, D.n_low, f_low F, _, _, rfl, rfl, _, rfl, _, _, _, _, _, rfl, hp, D.cl, D.n_left, f_left F, _, rfl, szl z.l, _, _, rfl, rfl, posl L.l0, _, _, _, rfl, rfl, szl z.l, by rw [rowS_len]; exact rowS_cyc L.l0 _, _, _, rfl, int_sgn _, one_len, ?_⟩
    rw [F.mem_dn c3] at q
    exact q
  have c3 : F.low ≤ n := by
    have : ¬ n < F.low := fun h => c2 (decide_eq_true h)
    omega
  have e : n - F.low = ((n - F.low).toNat : Int) := by omega
  have hl : (n - F.low).toNat < F.m.length := by unfold Frm.high at c1; omega
  refine ⟨_, rfl, _, _, _, _, _, rfl, hp, D.cl, D.n_middle, f_middle F, _, rfl, _, rfl, _, _, _, _, _, rfl, hp, D.cl, D.n_low, f_low F, _, _, rfl, rfl, _, _, _, rfl, rfl, szl z.m, by rw [e]; exact rowS_at hl, _, _, rfl, int_sgn _, one_len, ?_⟩
  rw [F.mem_mid c3 c1] at q
  exact q
end
end Od
end
section
set_option Elab.async false
set_option linter.all false
set_option maxRecDepth 100000
set_option autoImplicit false
/-! functions of days that come again from some day on -/
namespace Od
open Day
theorem _root_.Day.Up.mulN {f : Int → Bool} {p b : Int} (h0 : 0 < p) (h : Up f p b) (k : Nat) : Up f ((k : Int) * p) b := fun n hn => h.nat h0 k n hn
theorem _root_.Day.Dn.mulN {f : Int → Bool} {p b : Int} (h0 : 0 < p) (h : Dn f p b) (k : Nat) : Dn f ((k : Int) * p) b := fun n hn => h.nat h0 k n hn
/-- sizes within which the sets are worked on -/
structure Ok (f : Int → Bool) (c b : Int) : Prop where
  c0 : 0 < c
  c1 : c ≤ 200000
  b0 : 0 ≤ b
  b1 : b ≤ 1000000
  fit : Fit f c b
theorem Ok.neg {f : Int → Bool} {c b : Int} (o : Ok f c b) (hb : b + 1 ≤ 1000000) : Ok (fun n => f (-n)) c (b + 1) := by
  have b0 := o.b0
  refine ⟨o.c0, o.c1, by omega, hb, fun n hn => ?_, fun n hn => ?_⟩
  · show f (-(n + c)) = f (-n)
    rw [show -(n + c) = -n - c by omega]
    exact o.fit.2 (-n) (by omega)
  · show f (-(n - c)) = f (-n)
    rw [show -(n - c) = -n + c by omega]
    exact o.fit.1 (-n) (by omega)
theorem Ok.not {f : Int → Bool} {c b : Int} (o : Ok f c b) : Ok (fun n => !f n) c b :=
  ⟨o.c0, o.c1, o.b0, o.b1, fun n hn => by show (!f (n + c)) = !f n; rw [o.fit.1 n hn], fun n hn => by show (!f (n - c)) = !f n; rw [o.fit.2 n hn]⟩
theorem Ok.bin {f g : Int → Bool} {c b : Int} (o1 : Ok f c b) (o2 : Ok g c b) (t : Bool → Bool → Bool) : Ok (fun n => t (f n) (g n)) c b :=
  ⟨o1.c0, o1.c1, o1.b0, o1.b1, fun n hn => by show t (f (n + c)) (g (n + c)) = _; rw [o1.fit.1 n hn, o2.fit.1 n hn], fun n hn => by show t (f (n - c)) (g (n - c)) = _; rw [o1.fit.2 n hn, o2.fit.2 n hn]⟩
theorem Ok.mono {f : Int → Bool} {c b b' : Int} (o : Ok f c b) (h : b ≤ b') (h' : b' ≤ 1000000) : Ok f c b' :=
  ⟨o.c0, o.c1, by have := o.b0; omega, h', o.fit.1.mono h, o.fit.2.mono (by omega)⟩
theorem Ok.to {f g : Int → Bool} {c b : Int} (o : Ok f c b) (h : ∀ n, f n = g n) : Ok g c b := by
  have : f = g := funext h
  subst this
  exact o
/-- a period several times -/
theorem Ok.times {f : Int → Bool} {c b : Int} (o : Ok f c b) (k : Nat) (hk : 0 < k) (h : (k : Int) * c ≤ 200000) : Ok f (k * c) b :=
  ⟨by have := o.c0; exact Int.mul_pos (by omega) this, h, o.b0, o.b1, o.fit.1.mulN o.c0 k, o.fit.2.mulN o.c0 k⟩
theorem Ok.neg' {f : Int → Bool} {c b b' : Int} (o : Ok f c b) (h : b + 1 ≤ b') (h' : b' ≤ 1000000) : Ok (fun n => f (-n)) c b' := (o.neg (by omega)).mono h h'
theorem Ok.mv {f : Int → Bool} {c b b' k : Int} (o : Ok f c b) (h : b + k ≤ b') (h2 : b - k ≤ b') (h' : b' ≤ 1000000) : Ok (fun n => f (n - k)) c b' := by
  have b0 := o.b0
  refine ⟨o.c0, o.c1, by omega, h', fun n hn => ?_, fun n hn => ?_⟩
  · show f (n + c - k) = f (n - k)
    rw [show n + c - k = n - k + c by omega]
    exact o.fit.1 _ (by omega)
  · show f (n - c - k) = f (n - k)
    rw [show n - c - k = n - k - c by omega]
    exact o.fit.2 _ (by omega)
theorem Ok.kst {t : Bool} {c b : Int} (c0 : 0 < c) (c1 : c ≤ 200000) (b0 : 0 ≤ b) (b1 : b ≤ 1000000) : Ok (fun _ => t) c b := ⟨c0, c1, b0, b1, fun _ _ => rfl, fun _ _ => rfl⟩
def zeroF : Int → Bool := fun n => decide (n ∈ [(0 : Int)])
theorem zeroF_iff {n : Int} : zeroF n = true ↔ n = 0 := by unfold zeroF; simp
theorem Ok.zero {c b : Int} (c0 : 0 < c) (c1 : c ≤ 200000) (b0 : 1 ≤ b) (b1 : b ≤ 1000000) : Ok zeroF c b := by
  have key : ∀ n : Int, n ≠ 0 → zeroF n = false := fun n hn => by
    cases h : zeroF n with
    | false => rfl
    | true => exact absurd (zeroF_iff.mp h) hn
  exact ⟨c0, c1, by omega, b1, fun n hn => by rw [key n (by omega), key _ (by omega)], fun n hn => by rw [key n (by omega), key _ (by omega)]⟩
theorem Ok.per {f : Int → Bool} {c b : Int} (o : Ok f c b) (k : Int) (hk : 0 < k) (h : k * c ≤ 200000) : Ok f (k * c) b := by
  have := o.times k.toNat (by omega)
  rw [show (k.toNat : Int) = k by omega] at this
  exact this h
def inF (ds : List Int) : Int → Bool := fun n => decide (n ∈ ds)
theorem inF_iff {ds : List Int} {n : Int} : inF ds n = true ↔ n ∈ ds := decide_eq_true_iff
theorem Ok.inF {ds : List Int} {S : Int} (h : ∀ d ∈ ds, -S ≤ d ∧ d ≤ S) (S0 : 0 ≤ S) (S1 : S ≤ 1000) : Ok (inF ds) 1 (S + 1) := by
  have key : ∀ n : Int, (S < n ∨ n < -S) → Od.inF ds n = false := fun n hn => by
    cases e : Od.inF ds n with
    | false => rfl
    | true => have := h n (inF_iff.mp e); omega
  exact ⟨by decide, by decide, by omega, by omega, fun n hn => by rw [key n (by omega), key _ (by omega)], fun n hn => by rw [key n (by omega), key _ (by omega)]⟩
theorem cyc_of {l : List Bool} {c : Nat} (l0 : l ≠ []) (h : c % l.length = 0) (z : Int) : cyc l (z + c) = cyc l z := by
  have h0 := prim_len l0
  obtain ⟨q, hq⟩ := Nat.dvd_of_mod_eq_zero h
  unfold cyc
  rw [show z + (c : Int) = z + (l.length : Int) * (q : Int) by rw [← Int.natCast_mul, ← hq], Int.add_mul_emod_self_left]
/-- a form's function -/
theorem Frm.okF {l : List Bool} {k : Int} {m r : List Bool} {c : Nat} {b : Int} (l0 : l ≠ []) (r0 : r ≠ []) (ll : c % l.length = 0) (lr : c % r.length = 0) (c0 : 0 < c) (c1 : c ≤ 200000) (b0 : 0 ≤ b) (b1 : b ≤ 1000000) (k0 : -b ≤ k) (k1 : k + m.length ≤ b) : Ok (Frm.mk l k m r).mem c b := by
  refine ⟨by omega, by omega, b0, b1, fun n hn => ?_, fun n hn => ?_⟩
  · have hh : (Frm.mk l k m r).high = k + m.length := rfl
    rw [Frm.mem_up _ (by rw [hh]; omega), Frm.mem_up _ (by rw [hh]; omega)]
    rw [show n + (c : Int) - (Frm.mk l k m r).high = n - (Frm.mk l k m r).high + c by omega]
    exact cyc_of r0 lr _
  · rw [Frm.mem_dn _ (by show n - (c : Int) < k; omega), Frm.mem_dn _ (by show n < k; omega)]
    have := cyc_of l0 ll (n - c - k)
    rw [show n - (c : Int) - k + c = n - k by omega] at this
    exact this.symm
theorem div12 {n : Nat} (h0 : 0 < n) (h : n ≤ 4) : 12 % n = 0 := by
  have : n = 1 ∨ n = 2 ∨ n = 3 ∨ n = 4 := by omega
  rcases this with rfl | rfl | rfl | rfl <;> decide
/-- h has just the sums of a day of f and one of g -/
def IsSum (f g h : Int → Bool) : Prop := ∀ n, h n = true ↔ ∃ a b, f a = true ∧ g b = true ∧ n = a + b
theorem Ok.sum {f g h : Int → Bool} {c b : Int} (o1 : Ok f c b) (o2 : Ok g c b) (s : IsSum f g h) (hb : 2 * b + c ≤ 1000000) : Ok h c (2 * b + c) := by
  have c0 := o1.c0
  have b0 := o1.b0
  refine ⟨c0, o1.c1, by omega, hb, fun n hn => ?_, fun n hn => ?_⟩
  · have f1 : ∀ x, b ≤ x → f (x + c) = f x := o1.fit.1
    have g1 : ∀ x, b ≤ x → g (x + c) = g x := o2.fit.1
    rw [Bool.eq_iff_iff, s, s]
    constructor
    · rintro ⟨x, y, hx, hy, e⟩
      by_cases h1 : b + c ≤ x
      · refine ⟨x - c, y, ?_, hy, by omega⟩
        rw [← f1 (x - c) (by omega), show x - c + c = x by omega]
        exact hx
      · refine ⟨x, y - c, hx, ?_, by omega⟩
        rw [← g1 (y - c) (by omega), show y - c + c = y by omega]
        exact hy
    · rintro ⟨x, y, hx, hy, e⟩
      by_cases h1 : b ≤ x
      · exact ⟨x + c, y, by rw [f1 x h1]; exact hx, hy, by omega⟩
      · exact ⟨x, y + c, hx, by rw [g1 y (by omega)]; exact hy, by omega⟩
  · have f1 : ∀ x, x < -b → f (x - c) = f x := o1.fit.2
    have g1 : ∀ x, x < -b → g (x - c) = g x := o2.fit.2
    rw [Bool.eq_iff_iff, s, s]
    constructor
    · rintro ⟨x, y, hx, hy, e⟩
      by_cases h1 : x < -b - c
      · refine ⟨x + c, y, ?_, hy, by omega⟩
        rw [← f1 (x + c) (by omega), show x + c - c = x by omega]
        exact hx
      · refine ⟨x, y + c, hx, ?_, by omega⟩
        rw [← g1 (y + c) (by omega), show y + c - c = y by omega]
        exact hy
    · rintro ⟨x, y, hx, hy, e⟩
      by_cases h1 : x < -b
      · exact ⟨x - c, y, by rw [f1 x h1]; exact hx, hy, by omega⟩
      · exact ⟨x, y - c, hx, by rw [g1 y (by omega)]; exact hy, by omega⟩
def IsInner (f g h : Int → Bool) : Prop := ∀ n, h n = true ↔ ∀ b, g b = true → f (n + b) = true
end Od
end
section
set_option Elab.async false
set_option linter.all false
set_option maxRecDepth 100000
set_option maxHeartbeats 2000000
set_option autoImplicit false
namespace Od
open PySem PySem.Spec PyProof.Rows L2 C8 Day
abbrev s_DaySet_days_in : Stmt := inClass (top 16) 9
abbrev N_DaySet_days_in : List Str := ["self", "start", "stop", "n"]
abbrev P_DaySet_days_in : List Str := ["self", "start", "stop"]
theorem sc_DaySet_days_in : FnScope N_DaySet_days_in P_DaySet_days_in (C8.fnScope s_DaySet_days_in) := fnScope_by (by decide +kernel)
abbrev s_DaySet_merged : Stmt := inClass (top 16) 10
abbrev N_DaySet_merged : List Str := ["self", "other", "table", "low", "high", "before", "behind", "row", "n"]
abbrev P_DaySet_merged : List Str := ["self", "other", "table"]
theorem sc_DaySet_merged : FnScope N_DaySet_merged P_DaySet_merged (C8.fnScope s_DaySet_merged) := fnScope_by (by decide +kernel)
/-- the days from a on, b not within, that f tells -/
def daysIn (f : Int → Bool) (a b : Int) : List Int := ((List.range (b - a).toNat).map fun i => a + (i : Nat)).filter f
theorem mem_daysIn {f : Int → Bool} {a b n : Int} : n ∈ daysIn f a b ↔ a ≤ n ∧ n < b ∧ f n = true := by
  unfold daysIn
  rw [List.mem_filter, List.mem_map]
  constructor
  · rintro ⟨⟨i, hi, rfl⟩, hf⟩
    have := List.mem_range.mp hi
    exact ⟨by omega, by omega, hf⟩
  · rintro ⟨h1, h2, hf⟩
    exact ⟨⟨(n - a).toNat, List.mem_range.mpr (by omega), by omega⟩, hf⟩
theorem daysIn_fm (f : Int → Bool) (a b : Int) : (List.range (b - a).toNat).filterMap (fun i => if f (a + (i : Nat)) then some (V.int (a + (i : Nat))) else none) = (daysIn f a b).map V.int := by
  unfold daysIn
  generalize (List.range (b - a).toNat) = l
  induction l with
  | nil => rfl
  | cons i l ih =>
    rw [List.filterMap_cons, List.map_cons, List.filter_cons]
    cases h : f (a + (i : Nat)) with
    | true => simp only [if_true, List.map_cons, ih]
    | false => simpa using ih
theorem bi_dec (b : Bool) : decide (V.int (bi b) = V.int 1) = b := by cases b <;> decide
section
variable {P : Program} {w : World} {K : PySem.W.Frag} {mg : Str → Option Value} {base : Heap}
def sp_days_in (C : Addr) : Sp := fun vs H Q _ => ∃ (p : Addr) (a b : Int) (f : Int → Bool), vs = [.ref p, .int a, .int b] ∧ IsDay C H p f ∧ (-(2 ^ 62) ≤ a ∧ a < 2 ^ 62 ∧ -(2 ^ 62) ≤ b ∧ b < 2 ^ 62) ∧ b - a ≤ 16777216 ∧
  ∀ q H', Le H H' → H q = none → H' q = some (.lst ((daysIn f a b).map V.int)) → Q (.ref q) H'
theorem q_days_in {C : Addr} (T : Txt K mg) (D : DSC K mg C) (M : MetOf K C "days_in" "DaySet.days_in" s_DaySet_days_in P_DaySet_days_in) (Q_DaySet_sign : Met P w K mg base 1 C "sign" (sp_sign C) []) : Met P w K mg base 2 C "days_in" (sp_days_in C) [] := by
  obtain ⟨g, fd, M, F, B⟩ := M
  refine met0 D.cl M F B sc_DaySet_days_in (fun vs H Q E h => by obtain ⟨_, _, _, _, rfl, _⟩ := h; rfl) (fun cdv A outer s H vs Q E hr h => ?_)
  obtain ⟨p, a, b, f, rfl, hp, hb, hn, q⟩ := h
  have nd := sc_DaySet_days_in.nd
  refine ⟨_, (pss_one (ps_ret (pe_lc (own := [("n", 3)]) (g := gName 3) (by rfl) nd (pi_range2 (by rfl) T.b_range (pa_cons (pv 1) (pa_cons (pv 2) pa_nil))) (blkOk_by (own := [("n", 3)]) (N := N_DaySet_days_in) (sc := C8.fnScope s_DaySet_days_in) (by decide +kernel)) (fun _ _ _ _ _ => pg_name (i := 3) nd rfl (Or.inl rfl)) (fun _ _ _ _ _ => pts_one (pt_cmpR op_eq (pe_mt Q_DaySet_sign hr (by decide) (pv 0) (pa_cons (pv 3) pa_nil)) pe_int (nomark _))) (fun _ _ _ _ _ => (pv 3))))), ?_⟩
  refine ⟨_, rfl, _, rfl, _, _, rfl, hb, fun d hd => ?_⟩
  refine lc_pure walk_range hd (by have : sizeLine = 16777216 := sizeLine_eq; omega) (fun _ _ => trivial) yfn_le (fun i => if f (a + (i : Nat)) then some (V.int (a + (i : Nat))) else none) ?_ ?_
  · rintro i x H1 H2 hi le ⟨rfl, rfl⟩ N hN
    refine ⟨rfl, ?_⟩
    obtain ⟨F, dx, L, z, hm, hp'⟩ := hp.le le
    refine ⟨_, rfl, _, _, _, rfl, hp', by rfl, _, rfl, p, _, f, rfl, ⟨F, dx, L, z, hm, hp'⟩, rfl, _, rfl, ?_⟩
    rw [bi_dec]
    have := hN _ Le.refl
    cases hf : f (a + (i : Nat)) with
    | true => rw [hf] at this; exact ⟨_, rfl, this⟩
    | false => rw [hf] at this; exact this
  · intro H1 le e
    rw [daysIn_fm] at e
    exact q d H1 le hd e
/-! ### merged -/
def tabS (t : Bool → Bool → Bool) : List Bool := [t false false, t false true, t true false, t true true]
theorem tab_at (t : Bool → Bool → Bool) (a b : Bool) : atI (rowS (tabS t)).cps.toList (2 * bi a + bi b) = some (sg (t a b)) := by
  have h : (2 * bi a + bi b) = (((if a then 2 else 0) + (if b then 1 else 0) : Nat) : Int) := by cases a <;> cases b <;> rfl
  rw [h, rowS_at (l := tabS t) (by cases a <;> cases b <;> (simp [tabS]))]
  cases a <;> cases b <;> rfl
theorem sum_one : ∀ l : List Bool, (l.map fun _ => 1).sum = l.length
  | [] => rfl
  | _ :: l => by rw [List.map_cons, List.sum_cons, sum_one l, List.length_cons, Nat.add_comm]
theorem join_signs (l : List Bool) : Txt.join ("" : Str) (l.map fun b => (⟨#[sg b]⟩ : Str)) = rowS l := by
  have h := SX.join_S [] (l.map fun b => [sg b])
  rw [List.map_map] at h
  have e : (l.map (SX.S ∘ fun b => [sg b])) = l.map fun b => (⟨#[sg b]⟩ : Str) := List.map_congr_left fun _ _ => rfl
  rw [e] at h
  have e2 : (SX.S [] : Str) = ("" : Str) := by decide +kernel
  rw [e2] at h
  rw [h]
  unfold rowS
  congr 1
  clear h e
  induction l with
  | nil => rfl
  | cons a l ih =>
    cases l with
    | nil => rfl
    | cons b l =>
      show [sg a] ++ ([] ++ TL.joinL [] ((b :: l).map fun b => [sg b])) = _
      rw [ih]
      rfl
theorem up_lcm {F G : Frm} (LF : Least F) (LG : Least G) (t : Bool → Bool → Bool) {hi : Int} (h1 : F.high ≤ hi) (h2 : G.high ≤ hi) : Up (fun n => t (F.mem n) (G.mem n)) ((Nat.lcm F.r.length G.r.length : Nat) : Int) hi := by
  intro n hn
  obtain ⟨k, hk⟩ := Nat.dvd_lcm_left F.r.length G.r.length
  obtain ⟨j, hj⟩ := Nat.dvd_lcm_right F.r.length G.r.length
  have a1 := (LF.up_high.mulN (by have := prim_len LF.r0; omega) k) n (by omega)
  have a2 := (LG.up_high.mulN (by have := prim_len LG.r0; omega) j) n (by omega)
  have e1 : ((Nat.lcm F.r.length G.r.length : Nat) : Int) = (k : Int) * F.r.length := by rw [hk]; simp [Int.mul_comm]
  have e2 : ((Nat.lcm F.r.length G.r.length : Nat) : Int) = (j : Int) * G.r.length := by rw [hj]; simp [Int.mul_comm]
  show t (F.mem (n + _)) (G.mem (n + _)) = t (F.mem n) (G.mem n)
  rw [← a1, ← a2, ← e1, ← e2]
theorem dn_lcm {F G : Frm} (LF : Least F) (LG : Least G) (t : Bool → Bool → Bool) {lo : Int} (h1 : lo ≤ F.low) (h2 : lo ≤ G.low) : Dn (fun n => t (F.mem n) (G.mem n)) ((Nat.lcm F.l.length G.l.length : Nat) : Int) lo := by
  intro n hn
  obtain ⟨k, hk⟩ := Nat.dvd_lcm_left F.l.length G.l.length
  obtain ⟨j, hj⟩ := Nat.dvd_lcm_right F.l.length G.l.length
  have a1 := (LF.dn_low.mulN (by have := prim_len LF.l0; omega) k) n (by omega)
  have a2 := (LG.dn_low.mulN (by have := prim_len LG.l0; omega) j) n (by omega)
  have e1 : ((Nat.lcm F.l.length G.l.length : Nat) : Int) = (k : Int) * F.l.length := by rw [hk]; simp [Int.mul_comm]
  have e2 : ((Nat.lcm F.l.length G.l.length : Nat) : Int) = (j : Int) * G.l.length := by rw [hj]; simp [Int.mul_comm]
  show t (F.mem (n - _)) (G.mem (n - _)) = t (F.mem n) (G.mem n)
  rw [← a1, ← a2, ← e1, ← e2]
theorem lcm_le {a b : Nat} {p : Int} (hp : 0 < p) (h1 : p % (a : Int) = 0) (h2 : p % (b : Int) = 0) : ((Nat.lcm a b : Nat) : Int) ≤ p := by
  have d1 : (a : Int) ∣ p := Int.dvd_of_emod_eq_zero h1
  have d2 : (b : Int) ∣ p := Int.dvd_of_emod_eq_zero h2
  have : Nat.lcm a b ∣ p.toNat := Nat.lcm_dvd (by have := Int.natAbs_dvd_natAbs.mpr d1; rw [Int.natAbs_natCast] at this; rwa [show p.natAbs = p.toNat by omega] at this) (by have := Int.natAbs_dvd_natAbs.mpr d2; rw [Int.natAbs_natCast] at this; rwa [show p.natAbs = p.toNat by omega] at this)
  have := Nat.le_of_dvd (by omega) this
  omega
def sp_merged (C : Addr) : Sp := fun vs H Q _ => ∃ (p q : Addr) (t : Bool → Bool → Bool) (f g : Int → Bool) (c b : Int), vs = [.ref p, .ref q, .str (rowS (tabS t))] ∧ IsDay C H p f ∧ IsDay C H q g ∧ 0 < c ∧ c ≤ 200000 ∧ 0 ≤ b ∧ b ≤ 1000000 ∧ Fit f c b ∧ Fit g c b ∧
  ∀ r H', Le H H' → IsDay C H' r (fun n => t (f n) (g n)) → H r = none → Q (.ref r) H'
theorem q_merged {C : Addr} (T : Txt K mg) (D : DSC K mg C) (M : MetOf K C "merged" "DaySet.merged" s_DaySet_merged P_DaySet_merged) (Q_DaySet_sign : Met P w K mg base 1 C "sign" (sp_sign C) []) (C_multiple_of : Cal P w K mg base 2 "multiple_of" sp_multiple_of []) (M_DaySet : Mak P w K mg base 4 "DaySet" C (sp_init C) []) :
    Met P w K mg base 6 C "merged" (sp_merged C) [] := by
  obtain ⟨gg, fd, M, F, B⟩ := M
  refine met0 D.cl M F B sc_DaySet_merged (fun vs H Q E h => by obtain ⟨_, _, _, _, _, _, _, rfl, _⟩ := h; rfl) (fun cdv A outer s H vs Q E hr h => ?_)
  obtain ⟨p, q, t, f, g, c, b, rfl, hp, hq, c0, c1, b0, b1, ff, fg, qq⟩ := h
  have nd := sc_DaySet_merged.nd
  refine ⟨_, (pss_cons (ps_set (i := 3) nd rfl (Or.inl rfl) (pe_callB (call_min2 rfl) (by rfl) T.b_min (by decide +kernel) (pa_cons (pe_callTy call_int1 (by rfl) T.b_int (by decide +kernel) (pa_cons (pe_fld (pv 0) rfl) pa_nil)) (pa_cons (pe_callTy call_int1 (by rfl) T.b_int (by decide +kernel) (pa_cons (pe_fld (pv 1) rfl) pa_nil)) pa_nil))))
      (pss_cons (ps_set (i := 4) nd rfl (Or.inl rfl) (pe_callB (call_max2 rfl) (by rfl) T.b_max (by decide +kernel) (pa_cons (pe_callTy call_int1 (by rfl) T.b_int (by decide +kernel) (pa_cons (pe_fld (pv 0) rfl) pa_nil)) (pa_cons (pe_callTy call_int1 (by rfl) T.b_int (by decide +kernel) (pa_cons (pe_fld (pv 1) rfl) pa_nil)) pa_nil))))
      (pss_cons (ps_set (i := 5) nd rfl (Or.inl rfl) (pe_c C_multiple_of hr (by decide) rfl (pa_cons (pe_callB call_len_str (by rfl) T.b_len (by decide +kernel) (pa_cons (pe_fld (pv 0) rfl) pa_nil)) (pa_cons (pe_callB call_len_str (by rfl) T.b_len (by decide +kernel) (pa_cons (pe_fld (pv 1) rfl) pa_nil)) pa_nil))))
      (pss_cons (ps_set (i := 6) nd rfl (Or.inl rfl) (pe_c C_multiple_of hr (by decide) rfl (pa_cons (pe_callB call_len_str (by rfl) T.b_len (by decide +kernel) (pa_cons (pe_fld (pv 0) rfl) pa_nil)) (pa_cons (pe_callB call_len_str (by rfl) T.b_len (by decide +kernel) (pa_cons (pe_fld (pv 1) rfl) pa_nil)) pa_nil))))
      (pss_cons (ps_set (i := 7) nd rfl (Or.inl rfl) (pe_join pe_str (pe_lc (own := [("n", 8)]) (g := gName 8) (by rfl) nd (pi_range2 (by rfl) T.b_range (pa_cons (pe_op op_sub (pv 3) (pv 5)) (pa_cons (pe_op op_add (pv 4) (pv 6)) pa_nil))) (blkOk_by (own := [("n", 8)]) (N := N_DaySet_merged) (sc := C8.fnScope s_DaySet_merged) (by decide +kernel)) (fun _ _ _ _ _ => pg_name (i := 8) nd rfl (Or.inl rfl)) (fun _ _ _ _ _ => pts_nil) (fun _ _ _ _ _ => (pe_ix ix_str (pv 2) (pe_op op_add (pe_op op_mul pe_int (pe_mt Q_DaySet_sign hr (by decide) (pv 0) (pa_cons (pv 8) pa_nil))) (pe_mt Q_DaySet_sign hr (by decide) (pv 1) (pa_cons (pv 8) pa_nil))) (fun _ _ => rfl))))))
      (pss_one (ps_ret (pe_mk M_DaySet hr (by decide) rfl (pa_cons (pe_slice sl_str (pv 7) po_none (po_some (pv 5))) (pa_cons (pv 3) (pa_cons (pe_slice sl_str (pv 7) (po_some (pv 5)) (po_some (pe_op op_sub (pe_callB call_len_str (by rfl) T.b_len (by decide +kernel) (pa_cons (pv 7) pa_nil)) (pv 6)))) (pa_cons (pe_slice sl_str (pv 7) (po_some (pe_op op_sub (pe_callB call_len_str (by rfl) T.b_len (by decide +kernel) (pa_cons (pv 7) pa_nil)) (pv 6))) po_none) pa_nil)))))))))))), ?_⟩
  obtain ⟨F, dx, L, z, hm, hp1⟩ := id hp
  obtain ⟨G, dy, LG, zG, hmG, hq1⟩ := id hq
  have ef : F.mem = f := funext hm
  have eg : G.mem = g := funext hmG
  subst ef
  subst eg
  obtain ⟨fl, fr, fpl, fpr, fh, flo⟩ := ff.form L c0 b0
  obtain ⟨gl, gr, gpl, gpr, gh, glo⟩ := fg.form LG c0 b0
  refine ⟨_, rfl, _, _, _, _, _, rfl, hp1, D.cl, D.n_low, f_low F, .inl ⟨_, rfl, ?_⟩⟩
  refine ⟨_, rfl, _, _, _, _, _, rfl, hq1, D.cl, D.n_low, f_low G, .inl ⟨_, rfl, ?_⟩⟩
  refine ⟨_, _, rfl, ?_⟩
  refine ⟨_, rfl, _, _, _, _, _, rfl, hp1, D.cl, D.n_high, f_high F, .inl ⟨_, rfl, ?_⟩⟩
  refine ⟨_, rfl, _, _, _, _, _, rfl, hq1, D.cl, D.n_high, f_high G, .inl ⟨_, rfl, ?_⟩⟩
  refine ⟨_, _, rfl, ?_⟩
  have hlo : ∃ lo, (if G.low < F.low then G.low else F.low) = lo ∧ lo ≤ F.low ∧ lo ≤ G.low ∧ -b - 2 * c ≤ lo := ⟨_, rfl, by split <;> omega, by split <;> omega, by split <;> omega⟩
  have hhi : ∃ hi, (if G.high > F.high then G.high else F.high) = hi ∧ F.high ≤ hi ∧ G.high ≤ hi ∧ hi ≤ b := ⟨_, rfl, by split <;> omega, by split <;> omega, by split <;> omega⟩
  obtain ⟨lo, elo, lo1, lo2, lo3⟩ := hlo
  obtain ⟨hi, ehi, hi1, hi2, hi3⟩ := hhi
  rw [elo, ehi]
  have lFl := prim_len L.l0
  have lFr := prim_len L.r0
  have lGl := prim_len LG.l0
  have lGr := prim_len LG.r0
  refine ⟨_, rfl, _, _, _, _, _, rfl, hp1, D.cl, D.n_left, f_left F, _, rfl, szl z.l, _, rfl, _, _, _, _, _, rfl, hq1, D.cl, D.n_left, f_left G, _, rfl, szl zG.l, ?_⟩
  rw [rowS_len, rowS_len]
  refine ⟨F.l.length, G.l.length, rfl, lFl, lGl, by have := z.l; omega, by have := zG.l; omega, ?_⟩
  refine ⟨_, rfl, _, _, _, _, _, rfl, hp1, D.cl, D.n_right, f_right F, _, rfl, szl z.r, _, rfl, _, _, _, _, _, rfl, hq1, D.cl, D.n_right, f_right G, _, rfl, szl zG.r, ?_⟩
  rw [rowS_len, rowS_len]
  refine ⟨F.r.length, G.r.length, rfl, lFr, lGr, by have := z.r; omega, by have := zG.r; omega, ?_⟩
  have hu := up_lcm L LG t hi1 hi2
  have hd := dn_lcm L LG t lo1 lo2
  have la := lcm_le c0 fpl gpl
  have lb := lcm_le c0 fpr gpr
  have a0 : 0 < Nat.lcm F.l.length G.l.length := Nat.lcm_pos lFl lGl
  have b0' : 0 < Nat.lcm F.r.length G.r.length := Nat.lcm_pos lFr lGr
  generalize Nat.lcm F.l.length G.l.length = be at *
  generalize Nat.lcm F.r.length G.r.length = bh at *
  have hlh : lo ≤ hi := Int.le_trans lo1 (Int.le_trans F.low_high hi1)
  have hN : ((hi + (bh : Int)) - (lo - (be : Int))).toNat = be + (hi - lo).toNat + bh := by omega
  refine ⟨⟨_, rfl⟩, _, rfl, _, rfl, _, _, rfl, rfl, _, rfl, _, rfl, _, _, rfl, rfl, _, _, rfl, ?_, fun d hd0 => ?_⟩
  · exact ⟨by omega, by omega, by omega, by omega⟩
  rw [hN]
  refine lc_pure walk_range hd0 (le_szl _ (by omega)) (fun _ _ => trivial) yfn_le (fun i => some (V.str ⟨#[sg (t (F.mem (lo - be + (i : Nat))) (G.mem (lo - be + (i : Nat))))]⟩)) ?_ ?_
  · rintro i x H1 H2 hi le ⟨rfl, rfl⟩ N hN
    refine ⟨rfl, ?_⟩
    have hp2 := le p _ hp1
    have hq2 := le q _ hq1
    refine ⟨_, rfl, _, rfl, _, _, _, rfl, hp2, by rfl, _, rfl, p, _, _, rfl, hp.le le, ?_⟩
    refine ⟨_, _, rfl, rfl, .inl ⟨by decide, by decide⟩, _, rfl, _, _, _, rfl, hq2, by rfl, _, rfl, q, _, _, rfl, hq.le le, _, _, rfl, rfl, ?_⟩
    exact ⟨_, _, _, rfl, rfl, le_szl _ (by show 4 ≤ 16777216; decide), tab_at t _ _, hN _ Le.refl⟩
  intro H1 le e
  have er : ∃ R : List Bool, R = (List.range (be + (hi - lo).toNat + bh)).map (fun i => t (F.mem (lo - be + (i : Nat))) (G.mem (lo - be + (i : Nat)))) ∧ R.length = be + (hi - lo).toNat + bh ∧ ∀ i, i < R.length → R.getD i false = (fun n => t (F.mem n) (G.mem n)) (lo - be + (i : Nat)) := by
    refine ⟨_, rfl, by simp, fun i hi => ?_⟩
    rw [List.getD_eq_getElem?_getD, List.getElem?_map, List.getElem?_range (by simpa using hi)]
    rfl
  obtain ⟨R, eR, hR, hRi⟩ := er
  have e1 : H1 d = some (.lst ((R.map fun b => (⟨#[sg b]⟩ : Str)).map V.str)) := by
    rw [e, eR, List.map_map, List.map_map]
    congr 2
    rw [← List.filterMap_eq_map]
    rfl
  refine ⟨_, d, R.map fun b => (⟨#[sg b]⟩ : Str), rfl, rfl, .inl (.of e1), ?_, ?_⟩
  · have : ((R.map fun b => (⟨#[sg b]⟩ : Str)).map (·.length)).sum = R.length := by
      rw [List.map_map]
      have e3 : (R.map ((fun x : Str => x.length) ∘ fun b => (⟨#[sg b]⟩ : Str))) = R.map fun _ => 1 := List.map_congr_left fun _ _ => rfl
      rw [e3, sum_one]
    have e4 : (("" : Str)).length = 0 := by decide +kernel
    rw [this, e4, hR]
    omega
  rw [join_signs]
  have sR : (rowS R).length ≤ sizeLine := szl (by omega)
  have ej : (R.length : Int) - (bh : Int) = ((R.length - bh : Nat) : Int) := by omega
  refine ⟨_, rfl, _, rfl, _, rfl, _, rfl, sR, _, rfl, _, rfl, _, rfl, _, rfl, _, rfl, _, rfl, sR, _, rfl, _, _, rfl, rfl, _, rfl, _, rfl, sR, _, rfl, _, rfl, _, rfl, sR, _, rfl, _, _, rfl, rfl, _, rfl, _, rfl, sR, ?_⟩
  rw [rowS_len, ej, rowS_to R _ (by omega), rowS_mid R _ _ (by omega) (by omega), rowS_from R _ (by omega)]
  refine make_day _ lo _ _ (fun n => t (F.mem n) (G.mem n)) ?_ ?_ ?_ ?_ ?_ ?_ ?_
  · intro e0
    have := congrArg List.length e0
    rw [List.length_take, List.length_nil] at this
    omega
  · intro e0
    have := congrArg List.length e0
    rw [List.length_drop, List.length_nil] at this
    omega
  · rw [List.length_take]; omega
  · rw [List.length_take, List.length_drop]; omega
  · rw [List.length_drop]; omega
  · intro n
    have := form_of (f := fun n => t (F.mem n) (G.mem n)) (row := R) (low := lo) a0 b0' (by omega) hRi (by rw [hR, show lo + ((be + (hi - lo).toNat + bh - be - bh : Nat) : Int) = hi by omega]; exact hu) hd n
    rw [show R.length - bh - be = R.length - be - bh by omega]
    exact this
  · intro r H3 l3 hday hr0
    exact qq r H3 (le.trans l3) hday (le.none hr0)
end
end Od
end
section
set_option Elab.async false
set_option linter.all false
set_option maxRecDepth 100000
set_option maxHeartbeats 2000000
set_option autoImplicit false
namespace Od
open PySem PySem.Spec PyProof.Rows L2 C8 Day
theorem pe_not_own {X : Cx} {k j : Nat} {C : Addr} {sp : Sp} {ta : TE} {a : Expr} {pos : Pos} (c : C8.Met X.prog X.w X.K X.mg X.base k C "__bool__" sp []) (hr : Room j X.A) (hk : k ≤ j) (ha : PE X a ta) :
    PE X (.UnaryOp .Not a pos) (fun σ H Q => ta σ H fun x H1 => rTru C sp C8.E0 x H1 fun b H2 => Q (.bl (!b)) H2) := by
  refine ⟨fun pins s σ H Q I h => ?_⟩
  refine UnaryOp_ (thn (ha.run pins s σ H _ I h) fun v s1 ⟨x, H1, I1, r1, q1⟩ => ?_)
  exact not_of (thn (tru_ownM c hr hk pins s1 σ H1 x v (fun c H2 => Q (.bl (!c)) H2) I1 r1 q1) fun c s2 ⟨H2, I2, q2⟩ => ⟨.bl (!c), H2, I2, rfl, q2⟩)
abbrev s_DaySet___or__ : Stmt := inClass (top 16) 15
abbrev N_DaySet___or__ : List Str := ["self", "other"]
abbrev P_DaySet___or__ : List Str := ["self", "other"]
theorem sc_DaySet___or__ : FnScope N_DaySet___or__ P_DaySet___or__ (C8.fnScope s_DaySet___or__) := fnScope_by (by decide +kernel)
abbrev s_DaySet___and__ : Stmt := inClass (top 16) 16
abbrev N_DaySet___and__ : List Str := ["self", "other"]
abbrev P_DaySet___and__ : List Str := ["self", "other"]
theorem sc_DaySet___and__ : FnScope N_DaySet___and__ P_DaySet___and__ (C8.fnScope s_DaySet___and__) := fnScope_by (by decide +kernel)
abbrev s_DaySet___sub__ : Stmt := inClass (top 16) 17
abbrev N_DaySet___sub__ : List Str := ["self", "other"]
abbrev P_DaySet___sub__ : List Str := ["self", "other"]
theorem sc_DaySet___sub__ : FnScope N_DaySet___sub__ P_DaySet___sub__ (C8.fnScope s_DaySet___sub__) := fnScope_by (by decide +kernel)
abbrev s_DaySet___xor__ : Stmt := inClass (top 16) 18
abbrev N_DaySet___xor__ : List Str := ["self", "other"]
abbrev P_DaySet___xor__ : List Str := ["self", "other"]
theorem sc_DaySet___xor__ : FnScope N_DaySet___xor__ P_DaySet___xor__ (C8.fnScope s_DaySet___xor__) := fnScope_by (by decide +kernel)
abbrev s_DaySet___invert__ : Stmt := inClass (top 16) 19
abbrev N_DaySet___invert__ : List Str := ["self"]
abbrev P_DaySet___invert__ : List Str := ["self"]
theorem sc_DaySet___invert__ : FnScope N_DaySet___invert__ P_DaySet___invert__ (C8.fnScope s_DaySet___invert__) := fnScope_by (by decide +kernel)
section
variable {P : Program} {w : World} {K : PySem.W.Frag} {mg : Str → Option Value} {base : Heap}
def sp_bin (C : Addr) (t : Bool → Bool → Bool) : Sp := fun vs H Q _ => ∃ (p q : Addr) (f g : Int → Bool) (c b : Int), vs = [.ref p, .ref q] ∧ IsDay C H p f ∧ IsDay C H q g ∧ Ok f c b ∧ Ok g c b ∧
  ∀ r H', Le H H' → IsDay C H' r (fun n => t (f n) (g n)) → H r = none → Q (.ref r) H'
theorem tab_or : rowS (tabS (fun a b => a || b)) = ("0111" : Str) := by decide +kernel
theorem q_or {C : Addr} (T : Txt K mg) (D : DSC K mg C) (M : MetOf K C "__or__" "DaySet.__or__" s_DaySet___or__ P_DaySet___or__) (Q_DaySet_merged : Met P w K mg base 6 C "merged" (sp_merged C) []) : Met P w K mg base 7 C "__or__" (sp_bin C (fun a b => a || b)) [] := by
  obtain ⟨g, fd, M, F, B⟩ := M
  refine met0 D.cl M F B sc_DaySet___or__ (fun vs H Q E h => by obtain ⟨_, _, _, _, _, _, rfl, _⟩ := h; rfl) (fun cdv A outer s H vs Q E hr h => ?_)
  obtain ⟨p, q, f, g, c, b, rfl, hp, hq, o1, o2, qq⟩ := h
  have nd := sc_DaySet___or__.nd
  refine ⟨_, (pss_one (ps_ret (pe_mt Q_DaySet_merged hr (by decide) (pv 0) (pa_cons (pv 1) (pa_cons pe_str pa_nil))))), ?_⟩
  obtain ⟨F, dx, L, z, hm, hp1⟩ := id hp
  refine ⟨_, rfl, _, _, _, rfl, hp1, by rfl, _, rfl, p, q, (fun a b => a || b), f, g, c, b, ?_, hp, hq, o1.c0, o1.c1, o1.b0, o1.b1, o1.fit, o2.fit, qq⟩
  rw [tab_or]
  rfl
theorem tab_and : rowS (tabS (fun a b => a && b)) = ("0001" : Str) := by decide +kernel
theorem q_and {C : Addr} (T : Txt K mg) (D : DSC K mg C) (M : MetOf K C "__and__" "DaySet.__and__" s_DaySet___and__ P_DaySet___and__) (Q_DaySet_merged : Met P w K mg base 6 C "merged" (sp_merged C) []) : Met P w K mg base 7 C "__and__" (sp_bin C (fun a b => a && b)) [] := by
  obtain ⟨g, fd, M, F, B⟩ := M
  refine met0 D.cl M F B sc_DaySet___and__ (fun vs H Q E h => by obtain ⟨_, _, _, _, _, _, rfl, _⟩ := h; rfl) (fun cdv A outer s H vs Q E hr h => ?_)
  obtain ⟨p, q, f, g, c, b, rfl, hp, hq, o1, o2, qq⟩ := h
  have nd := sc_DaySet___and__.nd
  refine ⟨_, (pss_one (ps_ret (pe_mt Q_DaySet_merged hr (by decide) (pv 0) (pa_cons (pv 1) (pa_cons pe_str pa_nil))))), ?_⟩
  obtain ⟨F, dx, L, z, hm, hp1⟩ := id hp
  refine ⟨_, rfl, _, _, _, rfl, hp1, by rfl, _, rfl, p, q, (fun a b => a && b), f, g, c, b, ?_, hp, hq, o1.c0, o1.c1, o1.b0, o1.b1, o1.fit, o2.fit, qq⟩
  rw [tab_and]
  rfl
theorem tab_sub : rowS (tabS (fun a b => a && !b)) = ("0010" : Str) := by decide +kernel
theorem q_sub {C : Addr} (T : Txt K mg) (D : DSC K mg C) (M : MetOf K C "__sub__" "DaySet.__sub__" s_DaySet___sub__ P_DaySet___sub__) (Q_DaySet_merged : Met P w K mg base 6 C "merged" (sp_merged C) []) : Met P w K mg base 7 C "__sub__" (sp_bin C (fun a b => a && !b)) [] := by
  obtain ⟨g, fd, M, F, B⟩ := M
  refine met0 D.cl M F B sc_DaySet___sub__ (fun vs H Q E h => by obtain ⟨_, _, _, _, _, _, rfl, _⟩ := h; rfl) (fun cdv A outer s H vs Q E hr h => ?_)
  obtain ⟨p, q, f, g, c, b, rfl, hp, hq, o1, o2, qq⟩ := h
  have nd := sc_DaySet___sub__.nd
  refine ⟨_, (pss_one (ps_ret (pe_mt Q_DaySet_merged hr (by decide) (pv 0) (pa_cons (pv 1) (pa_cons pe_str pa_nil))))), ?_⟩
  obtain ⟨F, dx, L, z, hm, hp1⟩ := id hp
  refine ⟨_, rfl, _, _, _, rfl, hp1, by rfl, _, rfl, p, q, (fun a b => a && !b), f, g, c, b, ?_, hp, hq, o1.c0, o1.c1, o1.b0, o1.b1, o1.fit, o2.fit, qq⟩
  rw [tab_sub]
  rfl
theorem tab_xor : rowS (tabS (fun a b => a != b)) = ("0110" : Str) := by decide +kernel
theorem q_xor {C : Addr} (T : Txt K mg) (D : DSC K mg C) (M : MetOf K C "__xor__" "DaySet.__xor__" s_DaySet___xor__ P_DaySet___xor__) (Q_DaySet_merged : Met P w K mg base 6 C "merged" (sp_merged C) []) : Met P w K mg base 7 C "__xor__" (sp_bin C (fun a b => a != b)) [] := by
  obtain ⟨g, fd, M, F, B⟩ := M
  refine met0 D.cl M F B sc_DaySet___xor__ (fun vs H Q E h => by obtain ⟨_, _, _, _, _, _, rfl, _⟩ := h; rfl) (fun cdv A outer s H vs Q E hr h => ?_)
  obtain ⟨p, q, f, g, c, b, rfl, hp, hq, o1, o2, qq⟩ := h
  have nd := sc_DaySet___xor__.nd
  refine ⟨_, (pss_one (ps_ret (pe_mt Q_DaySet_merged hr (by decide) (pv 0) (pa_cons (pv 1) (pa_cons pe_str pa_nil))))), ?_⟩
  obtain ⟨F, dx, L, z, hm, hp1⟩ := id hp
  refine ⟨_, rfl, _, _, _, rfl, hp1, by rfl, _, rfl, p, q, (fun a b => a != b), f, g, c, b, ?_, hp, hq, o1.c0, o1.c1, o1.b0, o1.b1, o1.fit, o2.fit, qq⟩
  rw [tab_xor]
  rfl
theorem tab_inv : rowS (tabS (fun a b => !(a && b))) = ("1110" : Str) := by decide +kernel
def sp_inv (C : Addr) : Sp := fun vs H Q _ => ∃ (p : Addr) (f : Int → Bool) (c b : Int), vs = [.ref p] ∧ IsDay C H p f ∧ Ok f c b ∧ ∀ r H', Le H H' → IsDay C H' r (fun n => !f n) → H r = none → Q (.ref r) H'
theorem q_invert {C : Addr} (T : Txt K mg) (D : DSC K mg C) (M : MetOf K C "__invert__" "DaySet.__invert__" s_DaySet___invert__ P_DaySet___invert__) (Q_DaySet_merged : Met P w K mg base 6 C "merged" (sp_merged C) []) : Met P w K mg base 7 C "__invert__" (sp_inv C) [] := by
  obtain ⟨g, fd, M, F, B⟩ := M
  refine met0 D.cl M F B sc_DaySet___invert__ (fun vs H Q E h => by obtain ⟨_, _, _, _, rfl, _⟩ := h; rfl) (fun cdv A outer s H vs Q E hr h => ?_)
  obtain ⟨p, f, c, b, rfl, hp, o1, qq⟩ := h
  have nd := sc_DaySet___invert__.nd
  refine ⟨_, (pss_one (ps_ret (pe_mt Q_DaySet_merged hr (by decide) (pv 0) (pa_cons (pv 0) (pa_cons pe_str pa_nil))))), ?_⟩
  obtain ⟨F, dx, L, z, hm, hp1⟩ := id hp
  refine ⟨_, rfl, _, _, _, rfl, hp1, by rfl, _, rfl, p, p, (fun a b => !(a && b)), f, f, c, b, ?_, hp, hp, o1.c0, o1.c1, o1.b0, o1.b1, o1.fit, o1.fit, fun r H' le hd h0 => qq r H' le (hd.to fun n => by simp) h0⟩
  rw [tab_inv]
  rfl
end
end Od
end
section
set_option Elab.async false
set_option linter.all false
set_option autoImplicit false
/-! written forms as texts -/
namespace Od
open PySem PySem.Spec PyProof.Rows L2 Day
def numS (n : Int) : Str := Str.ofString (toString n)
theorem numS_tl (n : Int) : (numS n).cps.toList = if n < 0 then 45 :: TL.numL n.natAbs else TL.numL n.natAbs := by
  cases n with
  | ofNat m =>
    rw [if_neg (by show ¬ ((m : Int) < 0); omega)]
    exact TL.tl_num m
  | negSucc m =>
    rw [if_pos (Int.negSucc_lt_zero m)]
    unfold numS
    rw [Str.ofString_eq_toList]
    show ("-" ++ Nat.repr (m + 1)).toList.map Char.toNat = _
    rw [String.toList_append, List.map_append, Nat.toList_repr]
    rfl
theorem numS_inj {m n : Int} (h : numS m = numS n) : m = n := by
  have e : (numS m).cps.toList = (numS n).cps.toList := by rw [h]
  rw [numS_tl, numS_tl] at e
  have nd : ∀ k : Nat, ∀ l : List Nat, TL.numL k ≠ 45 :: l := fun k l z => by
    have : 45 ∈ TL.numL k := by rw [z]; exact List.mem_cons_self
    exact TL.numL_free (.inl (by decide)) this
  by_cases h1 : m < 0
  · by_cases h2 : n < 0
    · rw [if_pos h1, if_pos h2] at e
      injection e with _ e
      have := TL.numL_inj e
      omega
    · rw [if_pos h1, if_neg h2] at e
      exact absurd e.symm (nd _ _)
  · by_cases h2 : n < 0
    · rw [if_neg h1, if_pos h2] at e
      exact absurd e (nd _ _)
    · rw [if_neg h1, if_neg h2] at e
      have := TL.numL_inj e
      omega
theorem numS_free {k : Nat} (h : k < 45 ∨ (45 < k ∧ k < 48) ∨ 57 < k) (n : Int) : k ∉ (numS n).cps.toList := by
  rw [numS_tl]
  split
  · intro hm
    rcases List.mem_cons.mp hm with e | hm
    · omega
    · exact TL.numL_free (by omega) hm
  · exact TL.numL_free (by omega)
theorem numS_len {n : Int} {k : Nat} (hk : 0 < k) (h : n.natAbs < 10 ^ k) : (numS n).length ≤ k + 1 := by
  have e : (numS n).length = (numS n).cps.toList.length := by simp [Str.length]
  have := TL.numL_len hk h
  rw [e, numS_tl]
  split
  · rw [List.length_cons]; omega
  · omega
/-- the middle as a word -/
def midS (m : List Bool) : Str := if m = [] then ("-" : Str) else rowS m
def strF (F : Frm) : Str := Str.empty ++ rowS F.l ++ (" " : Str) ++ numS F.low ++ (" " : Str) ++ midS F.m ++ (" " : Str) ++ rowS F.r
theorem app_tl (a b : Str) : (a ++ b).cps.toList = a.cps.toList ++ b.cps.toList := by
  show (a.cps ++ b.cps).toList = _
  simp
theorem tl_sp : ((" " : Str)).cps.toList = [32] := by decide +kernel
theorem tl_dash : (("-" : Str)).cps.toList = [45] := by decide +kernel
theorem strF_tl (F : Frm) : (strF F).cps.toList = F.l.map sg ++ 32 :: ((numS F.low).cps.toList ++ 32 :: ((midS F.m).cps.toList ++ 32 :: F.r.map sg)) := by
  unfold strF
  rw [app_tl, app_tl, app_tl, app_tl, app_tl, app_tl, app_tl, tl_sp, rowS_tl, rowS_tl]
  show (([] ++ F.l.map sg ++ [32]) ++ _ ++ _ ++ _ ++ _ ++ _) = _
  simp
theorem cut_at {c : Nat} : ∀ {a a' b b' : List Nat}, c ∉ a → c ∉ a' → a ++ c :: b = a' ++ c :: b' → a = a' ∧ b = b'
  | [], [], _, _, _, _, e => ⟨rfl, by injection e⟩
  | [], x :: a', _, _, _, h, e => by
    injection e with e1 _
    exact absurd (by rw [e1]; exact List.mem_cons_self) h
  | x :: a, [], _, _, h, _, e => by
    injection e with e1 _
    exact absurd (by rw [← e1]; exact List.mem_cons_self) h
  | x :: a, y :: a', b, b', h, h', e => by
    injection e with e1 e2
    obtain ⟨q1, q2⟩ := cut_at (fun m => h (List.mem_cons_of_mem _ m)) (fun m => h' (List.mem_cons_of_mem _ m)) e2
    exact ⟨by rw [e1, q1], q2⟩
theorem sg_free {l : List Bool} {k : Nat} (h : k ≠ 48) (h' : k ≠ 49) : k ∉ l.map sg := fun m => by
  obtain ⟨b, _, e⟩ := List.mem_map.mp m
  cases b
  · exact h e.symm
  · exact h' e.symm
theorem midS_tl (m : List Bool) : (midS m).cps.toList = if m = [] then [45] else m.map sg := by
  unfold midS
  split
  · exact tl_dash
  · rfl
theorem midS_inj {m n : List Bool} (h : (midS m).cps.toList = (midS n).cps.toList) : m = n := by
  rw [midS_tl, midS_tl] at h
  by_cases h1 : m = []
  · by_cases h2 : n = []
    · rw [h1, h2]
    · rw [if_pos h1, if_neg h2] at h
      exact absurd (by rw [← h]; exact List.mem_cons_self) (sg_free (l := n) (k := 45) (by decide) (by decide))
  · by_cases h2 : n = []
    · rw [if_neg h1, if_pos h2] at h
      exact absurd (by rw [h]; exact List.mem_cons_self) (sg_free (l := m) (k := 45) (by decide) (by decide))
    · rw [if_neg h1, if_neg h2] at h
      exact rowS_inj (congrArg SX.S h)
theorem midS_free {k : Nat} (h : k ≠ 48) (h' : k ≠ 49) (h2 : k ≠ 45) (m : List Bool) : k ∉ (midS m).cps.toList := by
  rw [midS_tl]
  split
  · simp [h2]
  · exact sg_free h h'
theorem strF_inj {F G : Frm} (h : strF F = strF G) : F = G := by
  have e : (strF F).cps.toList = (strF G).cps.toList := by rw [h]
  rw [strF_tl, strF_tl] at e
  obtain ⟨e1, e⟩ := cut_at (sg_free (by decide) (by decide)) (sg_free (by decide) (by decide)) e
  obtain ⟨e2, e⟩ := cut_at (numS_free (.inl (by decide)) _) (numS_free (.inl (by decide)) _) e
  obtain ⟨e3, e4⟩ := cut_at (midS_free (by decide) (by decide) (by decide) _) (midS_free (by decide) (by decide) (by decide) _) e
  have h1 := rowS_inj (congrArg SX.S e1)
  have h2 := numS_inj (n := G.low) (m := F.low) (TL.ext_tl e2)
  have h3 := midS_inj e3
  have h4 := rowS_inj (congrArg SX.S e4)
  cases F
  cases G
  simp only at h1 h2 h3 h4
  rw [h1, h2, h3, h4]
end Od
end
section
set_option Elab.async false
set_option linter.all false
set_option maxRecDepth 100000
set_option maxHeartbeats 2000000
set_option autoImplicit false
namespace Od
open PySem PySem.Spec PyProof.Rows L2 C8 Day
abbrev s_DaySet___str__ : Stmt := inClass (top 16) 11
abbrev N_DaySet___str__ : List Str := ["self", "middle"]
abbrev P_DaySet___str__ : List Str := ["self"]
theorem sc_DaySet___str__ : FnScope N_DaySet___str__ P_DaySet___str__ (C8.fnScope s_DaySet___str__) := fnScope_by (by decide +kernel)
abbrev s_DaySet___bool__ : Stmt := inClass (top 16) 13
abbrev N_DaySet___bool__ : List Str := ["self"]
abbrev P_DaySet___bool__ : List Str := ["self"]
theorem sc_DaySet___bool__ : FnScope N_DaySet___bool__ P_DaySet___bool__ (C8.fnScope s_DaySet___bool__) := fnScope_by (by decide +kernel)
abbrev s_DaySet___eq__ : Stmt := inClass (top 16) 14
abbrev N_DaySet___eq__ : List Str := ["self", "other"]
abbrev P_DaySet___eq__ : List Str := ["self", "other"]
theorem sc_DaySet___eq__ : FnScope N_DaySet___eq__ P_DaySet___eq__ (C8.fnScope s_DaySet___eq__) := fnScope_by (by decide +kernel)
abbrev s_DaySet___contains__ : Stmt := inClass (top 16) 12
abbrev N_DaySet___contains__ : List Str := ["self", "x"]
abbrev P_DaySet___contains__ : List Str := ["self", "x"]
theorem sc_DaySet___contains__ : FnScope N_DaySet___contains__ P_DaySet___contains__ (C8.fnScope s_DaySet___contains__) := fnScope_by (by decide +kernel)
abbrev s_DaySet_goes_up : Stmt := inClass (top 16) 30
abbrev N_DaySet_goes_up : List Str := ["self"]
abbrev P_DaySet_goes_up : List Str := ["self"]
theorem sc_DaySet_goes_up : FnScope N_DaySet_goes_up P_DaySet_goes_up (C8.fnScope s_DaySet_goes_up) := fnScope_by (by decide +kernel)
abbrev s_DaySet_goes_down : Stmt := inClass (top 16) 31
abbrev N_DaySet_goes_down : List Str := ["self"]
abbrev P_DaySet_goes_down : List Str := ["self"]
theorem sc_DaySet_goes_down : FnScope N_DaySet_goes_down P_DaySet_goes_down (C8.fnScope s_DaySet_goes_down) := fnScope_by (by decide +kernel)
theorem Ok.sizes {F : Frm} {c b : Int} (o : Ok F.mem c b) (L : Least F) : F.low.natAbs < 10 ^ 8 ∧ F.high ≤ b ∧ -b - 2 * c ≤ F.low ∧ (F.l.length : Int) ≤ c ∧ (F.r.length : Int) ≤ c ∧ c % F.l.length = 0 ∧ c % F.r.length = 0 := by
  obtain ⟨h1, h2, h3, h4, h5, h6⟩ := o.fit.form L o.c0 o.b0
  have := o.c0; have := o.c1; have := o.b0; have := o.b1
  have := F.low_high
  exact ⟨by omega, h5, h6, h1, h2, h3, h4⟩
theorem log_lt {n : Nat} (h : n < 10 ^ 8) : n.log2 < 1920 := by
  by_cases c : n = 0
  · subst c; decide
  · rw [Nat.log2_lt c]
    exact Nat.lt_of_lt_of_le h (Nat.le_trans (show 10 ^ 8 ≤ 2 ^ 27 by decide) (Nat.pow_le_pow_right (by decide) (by decide)))
theorem lenA (a b : Str) : (a ++ b).length = a.length + b.length := by
  show (a.cps ++ b.cps).size = _
  rw [Array.size_append]
  rfl
/-- a day of it -/
def Any (f : Int → Bool) : Prop := ∃ n, f n = true
theorem any_mem {l : List Bool} : (49 ∈ l.map sg) ↔ true ∈ l := by
  rw [List.mem_map]
  constructor
  · rintro ⟨b, hb, e⟩
    cases b
    · cases e
    · exact hb
  · intro h
    exact ⟨true, h, rfl⟩
theorem cyc_mem {l : List Bool} (l0 : l ≠ []) (z : Int) (h : cyc l z = true) : true ∈ l := by
  unfold cyc at h
  have h1 := Int.emod_lt_of_pos z (show (0 : Int) < l.length by have := prim_len l0; omega)
  have h2 := Int.emod_nonneg z (show (l.length : Int) ≠ 0 by have := prim_len l0; omega)
  have h3 : (z % (l.length : Int)).toNat < l.length := by omega
  rw [List.getD_eq_getElem?_getD, List.getElem?_eq_getElem h3] at h
  have h4 : l[(z % (l.length : Int)).toNat] = true := h
  rw [← h4]
  exact List.getElem_mem _
theorem mem_cyc {l : List Bool} (h : true ∈ l) : ∃ i : Nat, i < l.length ∧ cyc l (i : Int) = true := by
  obtain ⟨i, hi, e⟩ := List.mem_iff_getElem.mp h
  refine ⟨i, hi, ?_⟩
  rw [cyc_nat hi, List.getD_eq_getElem?_getD, List.getElem?_eq_getElem hi, e]
  rfl
theorem any_form {F : Frm} (L : Least F) : (49 ∈ (F.l ++ F.m ++ F.r).map sg) ↔ Any F.mem := by
  rw [any_mem, List.mem_append, List.mem_append]
  constructor
  · rintro ((h | h) | h)
    · obtain ⟨i, hi, e⟩ := mem_cyc h
      refine ⟨F.low - F.l.length + i, ?_⟩
      rw [F.mem_dn (by omega)]
      rw [← cyc_per] at e
      rw [show F.low - (F.l.length : Int) + (i : Int) - F.low = (i : Int) + (-1) * F.l.length by omega, cyc_per.at]
      rw [cyc_per] at e
      exact e
    · obtain ⟨i, hi, e⟩ := List.mem_iff_getElem.mp h
      refine ⟨F.low + i, ?_⟩
      rw [F.mem_mid (by omega) (by unfold Frm.high; omega), show (F.low + (i : Int) - F.low).toNat = i by omega, List.getD_eq_getElem?_getD, List.getElem?_eq_getElem hi, e]
      rfl
    · obtain ⟨i, hi, e⟩ := mem_cyc h
      refine ⟨F.high + i, ?_⟩
      rw [F.mem_up (by omega), show F.high + (i : Int) - F.high = i by omega]
      exact e
  · rintro ⟨n, hn⟩
    by_cases h1 : F.high ≤ n
    · rw [F.mem_up h1] at hn
      exact .inr (cyc_mem L.r0 _ hn)
    · by_cases h2 : n < F.low
      · rw [F.mem_dn h2] at hn
        exact .inl (.inl (cyc_mem L.l0 _ hn))
      · rw [F.mem_mid (by omega) (by omega)] at hn
        refine .inl (.inr ?_)
        have h3 : (n - F.low).toNat < F.m.length := by unfold Frm.high at h1; omega
        rw [List.getD_eq_getElem?_getD, List.getElem?_eq_getElem h3] at hn
        have h4 : F.m[(n - F.low).toNat] = true := hn
        rw [← h4]
        exact List.getElem_mem _
section
variable {P : Program} {w : World} {K : PySem.W.Frag} {mg : Str → Option Value} {base : Heap}
/-! ### __str__ -/
def sp_str (C : Addr) : Sp := fun vs H Q _ => ∃ (p : Addr) (f : Int → Bool) (c b : Int), vs = [.ref p] ∧ IsDay C H p f ∧ Ok f c b ∧ ∀ F, Least F → (∀ n, F.mem n = f n) → Q (.str (strF F)) H
theorem q_str {C : Addr} (T : Txt K mg) (D : DSC K mg C) (M : MetOf K C "__str__" "DaySet.__str__" s_DaySet___str__ P_DaySet___str__) : Met P w K mg base 1 C "__str__" (sp_str C) [] := by
  obtain ⟨g, fd, M, F, B⟩ := M
  refine met0 D.cl M F B sc_DaySet___str__ (fun vs H Q E h => by obtain ⟨_, _, _, _, rfl, _⟩ := h; rfl) (fun cdv A outer s H vs Q E hr h => ?_)
  obtain ⟨p, f, c, b, rfl, ⟨F, dx, L, z, hm, hp1⟩, o1, qq⟩ := h
  have nd := sc_DaySet___str__.nd
  refine ⟨_, (C8.pss_cut (ps_set (i := 1) nd rfl (Or.inl rfl) (pe_ifExp (pt_cmpR op_eq (pe_fld (pv 0) rfl) pe_str (nomark _)) pe_str (pe_fld (pv 0) rfl)))
      (pss_one (ps_ret (pe_joined (.cons (pe_fmt (pe_fld (pv 0) rfl)) (.cons pe_str (.cons (pe_fmt (pe_fld (pv 0) rfl)) (.cons pe_str (.cons (pe_fmt (pv 1)) (.cons pe_str (.cons (pe_fmt (pe_fld (pv 0) rfl)) .nil))))))))))), ?_⟩
  have ef : F.mem = f := funext hm
  subst ef
  obtain ⟨z1, _⟩ := o1.sizes L
  refine ⟨fun σ' H' => H' = H ∧ σ' = [some (.ref p), some (.str (midS F.m))], ?_, ?_⟩
  · refine ⟨_, rfl, _, _, _, _, _, rfl, hp1, D.cl, D.n_middle, f_middle F, rfl, _, rfl, ?_⟩
    have ed : decide (V.str (rowS F.m) = V.str ("" : Str)) = decide (F.m = []) := by rw [← rowS_nil, rowS_dec]
    show if decide (V.str (rowS F.m) = V.str ("" : Str)) = true then _ else _
    rw [ed]
    refine ite2 (fun c => ?_) (fun c => ?_)
    · have e : F.m = [] := of_decide_eq_true c
      exact ⟨rfl, by unfold midS; rw [if_pos e]; rfl⟩
    · have e : ¬ F.m = [] := fun e => c (decide_eq_true e)
      exact ⟨_, rfl, _, _, _, _, _, rfl, hp1, D.cl, D.n_middle, f_middle F, rfl, by unfold midS; rw [if_neg e]; rfl⟩
  rintro σ' H' ⟨rfl, rfl⟩
  have lg : F.low.natAbs.log2 < 1920 := log_lt z1
  have l1 : (numS F.low).length ≤ 9 := numS_len (by decide) z1
  have l2 : (rowS F.l).length ≤ 4194304 := by rw [rowS_len]; exact z.l
  have l3 : (midS F.m).length ≤ 4194304 := by
    unfold midS
    split
    · decide +kernel
    · rw [rowS_len]; exact z.m
  have l4 : (rowS F.r).length ≤ 4194304 := by rw [rowS_len]; exact z.r
  have l5 : ((" " : Str)).length = 1 := by decide +kernel
  have l0 : (Str.empty).length = 0 := rfl
  have sz : sizeLine = 16777216 := sizeLine_eq
  refine ⟨_, rfl, _, _, _, _, _, rfl, hp1, D.cl, D.n_left, f_left F, .inl ⟨_, rfl, by omega, _, rfl, by rw [lenA]; omega, ?_⟩⟩
  refine ⟨_, rfl, by rw [lenA, lenA]; omega, ?_⟩
  refine ⟨_, rfl, _, _, _, _, _, rfl, hp1, D.cl, D.n_low, f_low F, .inr ⟨_, rfl, lg, _, rfl, ?_, ?_⟩⟩
  · show (_ ++ numS F.low).length ≤ _
    rw [lenA, lenA, lenA]; omega
  refine ⟨_, rfl, ?_, ?_⟩
  · show (_ ++ numS F.low ++ _).length ≤ _
    rw [lenA, lenA, lenA, lenA]; omega
  refine ⟨_, rfl, .inl ⟨_, rfl, by omega, _, rfl, ?_, ?_⟩⟩
  · show (_ ++ numS F.low ++ _ ++ _).length ≤ _
    rw [lenA, lenA, lenA, lenA, lenA]; omega
  refine ⟨_, rfl, ?_, ?_⟩
  · show (_ ++ numS F.low ++ _ ++ _ ++ _).length ≤ _
    rw [lenA, lenA, lenA, lenA, lenA, lenA]; omega
  refine ⟨_, rfl, _, _, _, _, _, rfl, hp1, D.cl, D.n_right, f_right F, .inl ⟨_, rfl, by omega, _, rfl, ?_, ?_⟩⟩
  · show (_ ++ numS F.low ++ _ ++ _ ++ _ ++ _).length ≤ _
    rw [lenA, lenA, lenA, lenA, lenA, lenA, lenA]; omega
  exact qq F L fun _ => rfl
/-! ### __bool__ -/
def sp_bool (C : Addr) : Sp := fun vs H Q _ => ∃ (p : Addr) (f : Int → Bool), vs = [.ref p] ∧ IsDay C H p f ∧ ∀ b, (b = true ↔ Any f) → Q (.bl b) H
theorem q_bool {C : Addr} (T : Txt K mg) (D : DSC K mg C) (M : MetOf K C "__bool__" "DaySet.__bool__" s_DaySet___bool__ P_DaySet___bool__) : Met P w K mg base 1 C "__bool__" (sp_bool C) [] := by
  obtain ⟨g, fd, M, F, B⟩ := M
  refine met0 D.cl M F B sc_DaySet___bool__ (fun vs H Q E h => by obtain ⟨_, _, rfl, _⟩ := h; rfl) (fun cdv A outer s H vs Q E hr h => ?_)
  obtain ⟨p, f, rfl, ⟨F, dx, L, z, hm, hp1⟩, qq⟩ := h
  have nd := sc_DaySet___bool__.nd
  refine ⟨_, (pss_one (ps_ret (pe_cmpR op_in_sign pe_str (pe_op op_add_str (pe_op op_add_str (pe_fld (pv 0) rfl) (pe_fld (pv 0) rfl)) (pe_fld (pv 0) rfl)) (by rfl)))), ?_⟩
  have ef : F.mem = f := funext hm
  subst ef
  have sz : sizeLine = 16777216 := sizeLine_eq
  have h1 := z.l
  have h2 := z.m
  have h3 := z.r
  refine ⟨_, rfl, _, _, _, _, _, rfl, hp1, D.cl, D.n_left, f_left F, _, rfl, _, _, _, _, _, rfl, hp1, D.cl, D.n_middle, f_middle F, _, _, rfl, rfl, by rw [rowS_len, rowS_len]; omega, _, rfl, _, _, _, _, _, rfl, hp1, D.cl, D.n_right, f_right F, _, _, rfl, rfl, ?_, 49, _, rfl, rfl, ?_⟩
  · rw [rowS_cat, rowS_len, rowS_len, List.length_append]; omega
  refine qq _ ?_
  rw [rowS_cat, rowS_cat, rowS_tl, decide_eq_true_iff]
  exact any_form L
/-! ### __contains__ -/
def sp_has (C : Addr) : Sp := fun vs H Q _ => ∃ (p : Addr) (n : Int) (f : Int → Bool), vs = [.ref p, .int n] ∧ IsDay C H p f ∧ Q (.bl (f n)) H
theorem q_contains {C : Addr} (T : Txt K mg) (D : DSC K mg C) (M : MetOf K C "__contains__" "DaySet.__contains__" s_DaySet___contains__ P_DaySet___contains__) (Q_DaySet_sign : Met P w K mg base 1 C "sign" (sp_sign C) []) : Met P w K mg base 2 C "__contains__" (sp_has C) [] := by
  obtain ⟨g, fd, M, F, B⟩ := M
  refine met0 D.cl M F B sc_DaySet___contains__ (fun vs H Q E h => by obtain ⟨_, _, _, rfl, _⟩ := h; rfl) (fun cdv A outer s H vs Q E hr h => ?_)
  obtain ⟨p, n, f, rfl, hp, qq⟩ := h
  have nd := sc_DaySet___contains__.nd
  refine ⟨_, (pss_one (ps_ret (pe_cmpR op_eq (pe_mt Q_DaySet_sign hr (by decide) (pv 0) (pa_cons (pv 1) pa_nil)) pe_int (nomark _)))), ?_⟩
  obtain ⟨F, dx, L, z, hm, hp1⟩ := id hp
  refine ⟨_, rfl, _, _, _, rfl, hp1, by rfl, _, rfl, p, n, f, rfl, hp, rfl, ?_⟩
  rw [bi_dec]
  exact qq
/-! ### __eq__ -/
def sp_eq (C : Addr) : Sp := fun vs H Q _ => ∃ (p q : Addr) (f g : Int → Bool) (c b c' b' : Int), vs = [.ref p, .ref q] ∧ IsDay C H p f ∧ IsDay C H q g ∧ Ok f c b ∧ Ok g c' b' ∧ ∀ e, (e = true ↔ ∀ n, f n = g n) → Q (.bl e) H
theorem q_eq {C : Addr} (T : Txt K mg) (D : DSC K mg C) (M : MetOf K C "__eq__" "DaySet.__eq__" s_DaySet___eq__ P_DaySet___eq__) (Q_DaySet___str__ : Met P w K mg base 1 C "__str__" (sp_str C) []) : Met P w K mg base 3 C "__eq__" (sp_eq C) [] := by
  obtain ⟨g, fd, M, F, B⟩ := M
  refine met0 D.cl M F B sc_DaySet___eq__ (fun vs H Q E h => by obtain ⟨_, _, _, _, _, _, _, _, rfl, _⟩ := h; rfl) (fun cdv A outer s H vs Q E hr h => ?_)
  obtain ⟨p, q, f, g, c, b, c', b', rfl, hp, hq, o1, o2, qq⟩ := h
  have nd := sc_DaySet___eq__.nd
  refine ⟨_, (pss_one (ps_ret (pe_and (pe_callB call_isi (by rfl) T.b_isinstance (by decide +kernel) (pa_cons (pv 1) (pa_cons (pe_gc rfl D.g) pa_nil))) (pe_one (pe_cmpR op_eq (pe_callTy (call_str_ownM Q_DaySet___str__ hr (by decide)) (by rfl) T.b_str (by decide +kernel) (pa_cons (pv 0) pa_nil)) (pe_callTy (call_str_ownM Q_DaySet___str__ hr (by decide)) (by rfl) T.b_str (by decide +kernel) (pa_cons (pv 1) pa_nil)) (nomark _)))))), ?_⟩
  obtain ⟨F, dx, L, z, hm, hp1⟩ := id hp
  obtain ⟨G, dy, LG, zG, hmG, hq1⟩ := id hq
  refine ⟨_, rfl, _, _, _, _, true, rfl, .own C, .base (.ins hq1 D.cl D.ha D.hn D.htk D.ob), D.isi, true, rfl, ?_⟩
  refine ⟨_, rfl, _, _, _, rfl, hp1, p, f, c, b, rfl, hp, o1, fun F' hF' hm' => ⟨_, rfl, ?_⟩⟩
  refine ⟨_, rfl, _, _, _, rfl, hq1, q, g, c', b', rfl, hq, o2, fun G' hG' hmG' => ⟨_, rfl, rfl, ?_⟩⟩
  refine qq _ ?_
  rw [decide_eq_true_iff]
  constructor
  · intro e n
    injection e with e
    have := strF_inj e
    subst this
    rw [← hm', ← hmG']
  · intro e
    have : F' = G' := hF'.unique hG' fun n => by rw [hm', hmG', e]
    rw [this]
end
/-! .. as an argument of str -/
theorem str_one {C p : Addr} {H : Hp} {f : Int → Bool} {c b : Int} {F : Frm} {E : XK} {Q : VK} (d : IsDay C H p f) (o : Ok f c b) (L : Least F) (hm : ∀ n, F.mem n = f n) (q : Q (.str (strF F)) H) : rStr C (sp_str C) E [.ref p] H Q := by
  obtain ⟨F', dx, L', z, m, e⟩ := id d
  refine ⟨p, dx, _, rfl, e, p, f, c, b, rfl, d, o, fun F2 L2 hm2 => ?_⟩
  have : F2 = F := Least.unique L2 L fun n => (hm2 n).trans (hm n).symm
  subst this
  exact ⟨_, rfl, q⟩
end Od
end
section
set_option Elab.async false
set_option linter.all false
set_option maxRecDepth 100000
set_option maxHeartbeats 2000000
set_option autoImplicit false
namespace Od
open PySem PySem.Spec PyProof.Rows L2 C8 Day
theorem fm_get {α : Type} (xs : List α) : ((List.range xs.length).filterMap fun i => xs[i]?) = xs := by
  have h : ∀ n, n ≤ xs.length → ((List.range n).filterMap fun i => xs[i]?) = xs.take n := by
    intro n
    induction n with
    | zero => intro _; simp
    | succ n ih =>
      intro hn
      rw [List.range_succ, List.filterMap_append, ih (by omega), List.take_add_one]
      have : xs[n]? = some (xs[n]'(by omega)) := List.getElem?_eq_getElem (by omega)
      simp [this]
  rw [h _ (Nat.le_refl _), List.take_of_length_le (Nat.le_refl _)]
abbrev s_DaySet___le__ : Stmt := inClass (top 16) 20
abbrev N_DaySet___le__ : List Str := ["self", "other"]
abbrev P_DaySet___le__ : List Str := ["self", "other"]
theorem sc_DaySet___le__ : FnScope N_DaySet___le__ P_DaySet___le__ (C8.fnScope s_DaySet___le__) := fnScope_by (by decide +kernel)
abbrev s_DaySet___rshift__ : Stmt := inClass (top 16) 24
abbrev N_DaySet___rshift__ : List Str := ["self", "n"]
abbrev P_DaySet___rshift__ : List Str := ["self", "n"]
theorem sc_DaySet___rshift__ : FnScope N_DaySet___rshift__ P_DaySet___rshift__ (C8.fnScope s_DaySet___rshift__) := fnScope_by (by decide +kernel)
abbrev s_DaySet___lshift__ : Stmt := inClass (top 16) 25
abbrev N_DaySet___lshift__ : List Str := ["self", "n"]
abbrev P_DaySet___lshift__ : List Str := ["self", "n"]
theorem sc_DaySet___lshift__ : FnScope N_DaySet___lshift__ P_DaySet___lshift__ (C8.fnScope s_DaySet___lshift__) := fnScope_by (by decide +kernel)
abbrev s_DaySet___neg__ : Stmt := inClass (top 16) 26
abbrev N_DaySet___neg__ : List Str := ["self"]
abbrev P_DaySet___neg__ : List Str := ["self"]
theorem sc_DaySet___neg__ : FnScope N_DaySet___neg__ P_DaySet___neg__ (C8.fnScope s_DaySet___neg__) := fnScope_by (by decide +kernel)
abbrev s_DaySet_none : Stmt := inClass (top 16) 1
abbrev N_DaySet_none : List Str := ["cls"]
abbrev P_DaySet_none : List Str := ["cls"]
theorem sc_DaySet_none : FnScope N_DaySet_none P_DaySet_none (C8.fnScope s_DaySet_none) := fnScope_by (by decide +kernel)
abbrev s_DaySet_every : Stmt := inClass (top 16) 2
abbrev N_DaySet_every : List Str := ["cls"]
abbrev P_DaySet_every : List Str := ["cls"]
theorem sc_DaySet_every : FnScope N_DaySet_every P_DaySet_every (C8.fnScope s_DaySet_every) := fnScope_by (by decide +kernel)
abbrev s_DaySet_start : Stmt := inClass (top 16) 4
abbrev N_DaySet_start : List Str := ["cls", "n"]
abbrev P_DaySet_start : List Str := ["cls", "n"]
theorem sc_DaySet_start : FnScope N_DaySet_start P_DaySet_start (C8.fnScope s_DaySet_start) := fnScope_by (by decide +kernel)
theorem frm_shift (l : List Bool) (low : Int) (m r : List Bool) (k n : Int) : (Frm.mk l (low + k) m r).mem n = (Frm.mk l low m r).mem (n - k) := by
  have hh : (Frm.mk l (low + k) m r).high = low + k + m.length := rfl
  have hh' : (Frm.mk l low m r).high = low + m.length := rfl
  by_cases h1 : low + k + (m.length : Int) ≤ n
  · rw [Frm.mem_up _ (by rw [hh]; exact h1), Frm.mem_up _ (by rw [hh']; omega), hh, hh']
    congr 1; omega
  · by_cases h2 : n < low + k
    · rw [Frm.mem_dn _ h2, Frm.mem_dn _ (by show n - k < low; omega)]
      show cyc l (n - (low + k)) = cyc l (n - k - low)
      congr 1; omega
    · rw [Frm.mem_mid _ (by show low + k ≤ n; omega) (by rw [hh]; omega), Frm.mem_mid _ (by show low ≤ n - k; omega) (by rw [hh']; omega)]
      show m.getD (n - (low + k)).toNat false = m.getD (n - k - low).toNat false
      congr 2; omega
theorem cyc_rev {l : List Bool} (l0 : l ≠ []) (z : Int) : cyc l.reverse z = cyc l (-1 - z) := by
  have h0 := prim_len l0
  have h1 := Int.emod_lt_of_pos z (show (0 : Int) < l.length by omega)
  have h2 := Int.emod_nonneg z (show (l.length : Int) ≠ 0 by omega)
  have h3 : (-1 - z) % (l.length : Int) = l.length - 1 - z % (l.length : Int) := by
    have e : -1 - z = (l.length - 1 - z % (l.length : Int)) + (l.length : Int) * (-(z / (l.length : Int)) - 1) := by
      have := Int.mul_ediv_add_emod z (l.length : Int)
      rw [Int.mul_sub, Int.mul_neg]
      omega
    rw [e, Int.add_mul_emod_self_left, Int.emod_eq_of_lt (by omega) (by omega)]
  unfold cyc
  rw [h3, List.length_reverse]
  rw [List.getD_eq_getElem?_getD, List.getD_eq_getElem?_getD, List.getElem?_reverse (by omega)]
  congr 2
  omega
theorem frm_neg (F : Frm) (l0 : F.l ≠ []) (r0 : F.r ≠ []) (n : Int) : (Frm.mk F.r.reverse (1 - F.high) F.m.reverse F.l.reverse).mem n = F.mem (-n) := by
  have hh : (Frm.mk F.r.reverse (1 - F.high) F.m.reverse F.l.reverse).high = 1 - F.low := by
    unfold Frm.high
    simp only [List.length_reverse]
    omega
  by_cases h1 : 1 - F.low ≤ n
  · rw [Frm.mem_up _ (by rw [hh]; exact h1), hh, F.mem_dn (by omega)]
    show cyc F.l.reverse _ = _
    rw [cyc_rev l0]
    congr 1; omega
  · by_cases h2 : n < 1 - F.high
    · rw [Frm.mem_dn _ h2, F.mem_up (by omega)]
      show cyc F.r.reverse _ = _
      rw [cyc_rev r0]
      congr 1; simp only; omega
    · rw [Frm.mem_mid _ (by simp only; omega) (by rw [hh]; omega), F.mem_mid (by omega) (by omega)]
      show F.m.reverse.getD (n - (1 - F.high)).toNat false = _
      have : F.high = F.low + F.m.length := rfl
      rw [List.getD_eq_getElem?_getD, List.getD_eq_getElem?_getD, List.getElem?_reverse (by omega)]
      congr 2
      omega
section
variable {P : Program} {w : World} {K : PySem.W.Frag} {mg : Str → Option Value} {base : Heap}
/-! ### moved, turned -/
def sp_mv (C : Addr) (s : Int → Int) : Sp := fun vs H Q _ => ∃ (p : Addr) (k : Int) (f : Int → Bool), vs = [.ref p, .int k] ∧ IsDay C H p f ∧ ∀ r H', Le H H' → IsDay C H' r (fun n => f (n - s k)) → H r = none → Q (.ref r) H'
theorem q_rshift {C : Addr} (T : Txt K mg) (D : DSC K mg C) (M : MetOf K C "__rshift__" "DaySet.__rshift__" s_DaySet___rshift__ P_DaySet___rshift__) (M_DaySet : Mak P w K mg base 4 "DaySet" C (sp_init C) []) : Met P w K mg base 6 C "__rshift__" (sp_mv C fun k => k) [] := by
  obtain ⟨g, fd, M, F, B⟩ := M
  refine met0 D.cl M F B sc_DaySet___rshift__ (fun vs H Q E h => by obtain ⟨_, _, _, rfl, _⟩ := h; rfl) (fun cdv A outer s H vs Q E hr h => ?_)
  obtain ⟨p, k, f, rfl, ⟨F, dx, L, z, hm, hp1⟩, qq⟩ := h
  have nd := sc_DaySet___rshift__.nd
  refine ⟨_, (pss_one (ps_ret (pe_mk M_DaySet hr (by decide) rfl (pa_cons (pe_fld (pv 0) rfl) (pa_cons (pe_op op_add (pe_fld (pv 0) rfl) (pv 1)) (pa_cons (pe_fld (pv 0) rfl) (pa_cons (pe_fld (pv 0) rfl) pa_nil))))))), ?_⟩
  refine ⟨_, rfl, _, _, _, _, _, rfl, hp1, D.cl, D.n_left, f_left F, _, rfl, _, _, _, _, _, rfl, hp1, D.cl, D.n_low, f_low F, _, rfl, _, _, rfl, rfl, _, rfl, _, _, _, _, _, rfl, hp1, D.cl, D.n_middle, f_middle F, _, rfl, _, _, _, _, _, rfl, hp1, D.cl, D.n_right, f_right F, ?_⟩
  exact make_day F.l (F.low + k) F.m F.r _ L.l0 L.r0 z.l z.m z.r (fun n => by rw [frm_shift]; exact hm _) qq
theorem q_lshift {C : Addr} (T : Txt K mg) (D : DSC K mg C) (M : MetOf K C "__lshift__" "DaySet.__lshift__" s_DaySet___lshift__ P_DaySet___lshift__) (M_DaySet : Mak P w K mg base 4 "DaySet" C (sp_init C) []) : Met P w K mg base 6 C "__lshift__" (sp_mv C fun k => -k) [] := by
  obtain ⟨g, fd, M, F, B⟩ := M
  refine met0 D.cl M F B sc_DaySet___lshift__ (fun vs H Q E h => by obtain ⟨_, _, _, rfl, _⟩ := h; rfl) (fun cdv A outer s H vs Q E hr h => ?_)
  obtain ⟨p, k, f, rfl, ⟨F, dx, L, z, hm, hp1⟩, qq⟩ := h
  have nd := sc_DaySet___lshift__.nd
  refine ⟨_, (pss_one (ps_ret (pe_mk M_DaySet hr (by decide) rfl (pa_cons (pe_fld (pv 0) rfl) (pa_cons (pe_op op_sub (pe_fld (pv 0) rfl) (pv 1)) (pa_cons (pe_fld (pv 0) rfl) (pa_cons (pe_fld (pv 0) rfl) pa_nil))))))), ?_⟩
  refine ⟨_, rfl, _, _, _, _, _, rfl, hp1, D.cl, D.n_left, f_left F, _, rfl, _, _, _, _, _, rfl, hp1, D.cl, D.n_low, f_low F, _, rfl, _, _, rfl, rfl, _, rfl, _, _, _, _, _, rfl, hp1, D.cl, D.n_middle, f_middle F, _, rfl, _, _, _, _, _, rfl, hp1, D.cl, D.n_right, f_right F, ?_⟩
  exact make_day F.l (F.low - k) F.m F.r _ L.l0 L.r0 z.l z.m z.r (fun n => by rw [Int.sub_eq_add_neg, frm_shift]; exact hm _) qq
def sp_neg (C : Addr) : Sp := fun vs H Q _ => ∃ (p : Addr) (f : Int → Bool), vs = [.ref p] ∧ IsDay C H p f ∧ ∀ r H', Le H H' → IsDay C H' r (fun n => f (-n)) → H r = none → Q (.ref r) H'
theorem q_neg {C : Addr} (T : Txt K mg) (D : DSC K mg C) (M : MetOf K C "__neg__" "DaySet.__neg__" s_DaySet___neg__ P_DaySet___neg__) (M_DaySet : Mak P w K mg base 4 "DaySet" C (sp_init C) []) : Met P w K mg base 6 C "__neg__" (sp_neg C) [] := by
  obtain ⟨g, fd, M, F, B⟩ := M
  refine met0 D.cl M F B sc_DaySet___neg__ (fun vs H Q E h => by obtain ⟨_, _, rfl, _⟩ := h; rfl) (fun cdv A outer s H vs Q E hr h => ?_)
  obtain ⟨p, f, rfl, ⟨F, dx, L, z, hm, hp1⟩, qq⟩ := h
  have nd := sc_DaySet___neg__.nd
  refine ⟨_, (pss_one (ps_ret (pe_mk M_DaySet hr (by decide) rfl (pa_cons (pe_revS (pe_fld (pv 0) rfl)) (pa_cons (pe_op op_sub pe_int (pe_fld (pv 0) rfl)) (pa_cons (pe_revS (pe_fld (pv 0) rfl)) (pa_cons (pe_revS (pe_fld (pv 0) rfl)) pa_nil))))))), ?_⟩
  refine ⟨_, rfl, _, _, _, _, _, rfl, hp1, D.cl, D.n_right, f_right F, _, rfl, szl z.r, _, rfl, _, _, _, _, _, rfl, hp1, D.cl, D.n_high, f_high F, _, _, rfl, rfl, _, rfl, _, _, _, _, _, rfl, hp1, D.cl, D.n_middle, f_middle F, _, rfl, szl z.m, _, rfl, _, _, _, _, _, rfl, hp1, D.cl, D.n_left, f_left F, _, rfl, szl z.l, ?_⟩
  rw [rowS_rev, rowS_rev, rowS_rev]
  refine make_day F.r.reverse (1 - F.high) F.m.reverse F.l.reverse _ ?_ ?_ ?_ ?_ ?_ (fun n => by rw [frm_neg F L.l0 L.r0]; exact hm _) qq
  · intro e; exact L.r0 (List.reverse_eq_nil_iff.mp e)
  · intro e; exact L.l0 (List.reverse_eq_nil_iff.mp e)
  · rw [List.length_reverse]; exact z.r
  · rw [List.length_reverse]; exact z.m
  · rw [List.length_reverse]; exact z.l
/-! ### none, every, start -/
def sp_kst (C : Addr) (t : Bool) : Sp := fun vs H Q _ => vs = [.ref C] ∧ ∀ r H', Le H H' → IsDay C H' r (fun _ => t) → H r = none → Q (.ref r) H'
theorem mem_kst (t : Bool) (n : Int) : (Frm.mk [t] 0 [] [t]).mem n = t := by
  have c1 : ∀ z, cyc [t] z = t := fun z => by unfold cyc; show [t].getD (z % (1 : Int)).toNat false = t; rw [Int.emod_one]; rfl
  unfold Frm.mem
  simp only [c1]
  split
  · rfl
  · rw [if_pos (by rename_i h; unfold Frm.high at h; simp only [List.length_nil] at h; omega)]
theorem q_none {C : Addr} (T : Txt K mg) (D : DSC K mg C) (M : ClmOf K C "none" "DaySet.none" s_DaySet_none P_DaySet_none) (M_DaySet : Mak P w K mg base 4 "DaySet" C (sp_init C) []) : CMt P w K mg base 6 C "none" (sp_kst C false) := by
  obtain ⟨mc, pp, g, fd, r, cm, F, B⟩ := M
  refine cmt0 r cm F B sc_DaySet_none (fun vs H Q E h => by obtain ⟨rfl, _⟩ := h; rfl) (fun cdv A outer s H vs Q E hr h => ?_)
  obtain ⟨rfl, qq⟩ := h
  have nd := sc_DaySet_none.nd
  refine ⟨_, (pss_one (ps_ret (pe_mk M_DaySet hr (by decide) rfl (pa_cons pe_str (pa_cons pe_int (pa_cons pe_str (pa_cons pe_str pa_nil))))))), ?_⟩
  have := make_day (C := C) (H := H) (Q := Q) (E := C8.E0) [false] 0 [] [false] (fun _ => false) (by simp) (by simp) (by decide) (by decide) (by decide) (mem_kst false) qq
  rw [rowS_0, rowS_nil] at this
  exact this
theorem q_every {C : Addr} (T : Txt K mg) (D : DSC K mg C) (M : ClmOf K C "every" "DaySet.every" s_DaySet_every P_DaySet_every) (M_DaySet : Mak P w K mg base 4 "DaySet" C (sp_init C) []) : CMt P w K mg base 6 C "every" (sp_kst C true) := by
  obtain ⟨mc, pp, g, fd, r, cm, F, B⟩ := M
  refine cmt0 r cm F B sc_DaySet_every (fun vs H Q E h => by obtain ⟨rfl, _⟩ := h; rfl) (fun cdv A outer s H vs Q E hr h => ?_)
  obtain ⟨rfl, qq⟩ := h
  have nd := sc_DaySet_every.nd
  refine ⟨_, (pss_one (ps_ret (pe_mk M_DaySet hr (by decide) rfl (pa_cons pe_str (pa_cons pe_int (pa_cons pe_str (pa_cons pe_str pa_nil))))))), ?_⟩
  have := make_day (C := C) (H := H) (Q := Q) (E := C8.E0) [true] 0 [] [true] (fun _ => true) (by simp) (by simp) (by decide) (by decide) (by decide) (mem_kst true) qq
  rw [rowS_1, rowS_nil] at this
  exact this
/-! ### <= -/
def sp_le (C : Addr) : Sp := fun vs H Q _ => ∃ (p q : Addr) (f g : Int → Bool) (c b : Int), vs = [.ref p, .ref q] ∧ IsDay C H p f ∧ IsDay C H q g ∧ Ok f c b ∧ Ok g c b ∧ ∀ e H', (e = true ↔ ∀ n, f n = true → g n = true) → Le H H' → Q (.bl e) H'
theorem q_le {C : Addr} (T : Txt K mg) (D : DSC K mg C) (M : MetOf K C "__le__" "DaySet.__le__" s_DaySet___le__ P_DaySet___le__) (Q_DaySet___sub__ : Met P w K mg base 7 C "__sub__" (sp_bin C fun a b => a && !b) []) (Q_DaySet___bool__ : Met P w K mg base 1 C "__bool__" (sp_bool C) []) : Met P w K mg base 8 C "__le__" (sp_le C) [] := by
  obtain ⟨g, fd, M, F, B⟩ := M
  refine met0 D.cl M F B sc_DaySet___le__ (fun vs H Q E h => by obtain ⟨_, _, _, _, _, _, rfl, _⟩ := h; rfl) (fun cdv A outer s H vs Q E hr h => ?_)
  obtain ⟨p, q, f, g, c, b, rfl, hp, hq, o1, o2, qq⟩ := h
  have nd := sc_DaySet___le__.nd
  refine ⟨_, (pss_one (ps_ret (pe_not_own Q_DaySet___bool__ hr (by decide) (pe_op (op_ownM D.sf Q_DaySet___sub__ hr (by decide)) (pv 0) (pv 1))))), ?_⟩
  obtain ⟨F, dx, L, z, hm, hp1⟩ := id hp
  obtain ⟨G, dy, LG, zG, hmG, hq1⟩ := id hq
  refine ⟨_, rfl, _, rfl, _, _, _, _, _, _, rfl, rfl, hp1, hq1, p, q, f, g, c, b, rfl, hp, hq, o1, o2, fun r H' le hd h0 => ?_⟩
  obtain ⟨G2, dz, LG2, zG2, hmG2, hr1⟩ := id hd
  refine ⟨_, _, _, rfl, hr1, r, _, rfl, hd, fun e he => ⟨e, rfl, qq _ H' ?_ le⟩⟩
  cases e with
  | false =>
    constructor
    · intro _ n hn
      cases hg : g n with
      | true => rfl
      | false =>
        have : false = true := he.mpr ⟨n, by show (f n && !g n) = true; rw [hn, hg]; rfl⟩
        cases this
    · intro _; rfl
  | true =>
    constructor
    · intro h; cases h
    · intro h
      obtain ⟨n, hn⟩ := he.mp rfl
      have hn' : (f n && !g n) = true := hn
      rw [Bool.and_eq_true] at hn'
      have := h n hn'.1
      rw [this] at hn'
      exact absurd hn'.2 (by decide)
end
end Od
end
section
set_option Elab.async false
set_option linter.all false
set_option maxRecDepth 100000
set_option maxHeartbeats 2000000
set_option autoImplicit false
namespace Od
open PySem PySem.Spec PyProof.Rows L2
theorem Room.u1 {k : Nat} {A : Around} (r : Room k A) : A.units + 1 < cLine := by have := r.units; omega
/-- list(o.values()) -/
def tListVals (td : TE) : TE := fun σ H Q => td σ H fun x H1 => ∃ a kvs, x = V.ref a ∧ H1 a = some (.dK kvs) ∧ ∀ q, H1 q = none → Q (.ref q) (upd H1 q (.lst (kvs.map (·.2))))
theorem pe_listVals {X : Cx} {o : Expr} {p pos apos mpos : Pos} {td : TE} (hc : X.calm = true) (hg : Gl X "list") (hm : X.mg "list" = none) (hd : PE X o td) (hbase : attributeBase o "values" X.env (eval o X.env) = eval o X.env := by rfl) (hline : (apos.endLine == mpos.line) = true := by rfl)
    (na : starEach [Expr.Call (.Attribute o "values" apos) [] [] mpos] X.env = (false, eval (Expr.Call (.Attribute o "values" apos) [] [] mpos) X.env) :: starEach [] X.env := by rfl) :
    PE X (.Call (.Name "list" p) [.Call (.Attribute o "values" apos) [] [] mpos] [] pos) (tListVals td) := by
  refine ⟨fun pins s σ H Q I h => ?_⟩
  refine Call_ (ld_blt I hg hm boot_list (PyProof.Rows.callWith_type1 (args_cons (wpAny_Call_method0_late hbase hline (thn (hd.run pins s σ H _ I h) fun v s1 ⟨x, H1, I1, r1, a, kvs, ex, ha, q⟩ => ?_)) na) na))
  subst ex
  obtain rfl : v = Value.ref a := r1
  obtain ⟨hz, hsys, vs, rel, dof⟩ := (show ObjOk X.prog X.w H1 s1.heap a (.dK kvs) from I1.hok a _ ha)
  obtain ⟨ep, dat⟩ := dof.dictAt
  have dat' := dat
  obtain ⟨ob, es, ho, ex, hdat, hko, hpr, hnd⟩ := dat'
  refine ⟨"dict", "dict.values", F.plainAttrs_dict, F.slot_dict_values, F.type_dict_values, ⟨ob, ho, ex.1⟩, fun b e => ?_, Calls.callWith_builtin rfl (PySem.evalArgs_none ?_)⟩
  · cases e
    exact ⟨ob, ho, ex.2.1⟩
  refine call_meetsIn F.slot_dict_values ⟨ob, ho, ex.1⟩ F.entry_dict_values (F.args_dict_values_1 _) (meets_dict_values (mixKind X.prog X.w) a hsys) ⟨⟨vs, dof⟩, ?_⟩
  refine args_nil ?_
  have k1 : ∀ b u, s1.heap.get? b = some u → (s1.heap.push { cls := .type "dict_values", data := .fields #[.ref a] }).get? b = some u := fun b u e => Heap.get?_push_of_some _ e
  have dat1 : (s1.heap.push { cls := .type "dict_values", data := .fields #[.ref a] }).DictAt (mixKind X.prog X.w) a vs ep := dat.keep k1
  have hl : kvs.length = vs.length := Paired.length rel
  have I2 : Inv X pins σ H1 { s1 with heap := s1.heap.push { cls := .type "dict_values", data := .fields #[.ref a] } } := I1.kept (t' := s1.toks) k1
  refine PySem.W.kdl_call (PySem.W.kdl_values (knd := mixKind X.prog X.w) (kvs := vs) (ep := ep)) (I2.ok.hd hc) ⟨⟨_, Heap.get?_push_size _ rfl, rfl, rfl⟩, dat1⟩ (by rw [← hl]; exact hz) fun h' tk acc' c' hkeep hS hacc => ?_
  refine ⟨.ref _, upd H1 _ (.lst (kvs.map (·.2))), I2.laid hkeep (Nat.le_refl _) (show ObjOk X.prog X.w _ _ _ (.lst (kvs.map (·.2))) from ⟨?_, acc'.toList, c', ?_, ?_⟩), rfl, q _ (I2.hok.fresh (Nat.le_refl _))⟩
  · rw [List.length_map]; exact hz
  · refine vals_of_at (by have := hacc.1; rw [List.length_map, show acc'.toList.length = acc'.size from Array.length_toList]; omega) fun j x w h1 h2 => ?_
    obtain ⟨k, hky⟩ := hacc.2 j w (by rw [← Array.getElem?_toList]; exact h2)
    obtain ⟨y, h3, h4⟩ := KV.at' rel hky
    rw [List.getElem?_map, h3] at h1
    have : y = x := by simpa using h1
    rw [← this]
    exact h4
  · rw [Array.toArray_toList]; exact hS
/-- .. the written part told, so that a comprehension's block may use them -/
theorem pe_fldK {X : Cx} {K : PySem.W.Frag} {e : Expr} {f : Str} {ta : TE} {pos : Pos} (hK : X.K = K) (h : PE X (.Attribute e f pos) (tFld X.K ta f)) : PE X (.Attribute e f pos) (tFld K ta f) := by
  subst hK
  exact h
theorem pi_listK {X : Cx} {K : PySem.W.Frag} {tg l : Expr} {tl : TE} (hK : X.K = K) (hl : PE X l tl) : PI X tg l (iList K tl) := by
  subst hK
  exact pi_list hl
end Od
end
section
set_option Elab.async false
set_option linter.all false
set_option maxRecDepth 100000
set_option maxHeartbeats 2000000
/-! {k: v for a in xs for b in ys}: a dict comprehension of two clauses (the one of one clause: HandS.DictComp; the list of two: HandS.Comp) -/
namespace Od
open PySem PySem.Spec PyProof.Rows L2
theorem compTurn2_outD (kx vx t0 i0 t1 i1 : Expr) (ifs0 ifs1 : List Expr) (scope : Scope) (pos : Pos) (it acc : Value) (env : Env) :
    compTurn (.DictComp kx vx [⟨t0, i0, ifs0, 0⟩, ⟨t1, i1, ifs1, 0⟩] scope pos) 0 it acc env = (do
      standAt i0.pos
      match ← pyNext it with
      | none => pure (.done .next)
      | some v =>
        letOwnedTupleGo t0 it v
        assign t0 env v
        let mut ok := true
        for c in ifs0 do
          if ok then ok ← isTrue c env (eval c env)
        if ok then
          let x ← eval i1 env
          standAt i1.pos
          let x ← foldedSetIterable i1 env x
          let _ ← runOwn (.compStart (.DictComp kx vx [⟨t0, i0, ifs0, 0⟩, ⟨t1, i1, ifs1, 0⟩] scope pos) 1 (← holding [x] (pyIter x)) acc env) env
        again (.compLoop (.DictComp kx vx [⟨t0, i0, ifs0, 0⟩, ⟨t1, i1, ifs1, 0⟩] scope pos) 0 it acc env)) := by rfl
theorem compTurn2_inD (kx vx t0 i0 t1 i1 : Expr) (ifs0 ifs1 : List Expr) (scope : Scope) (pos : Pos) (it : Value) (D : Addr) (env : Env) :
    compTurn (.DictComp kx vx [⟨t0, i0, ifs0, 0⟩, ⟨t1, i1, ifs1, 0⟩] scope pos) 1 it (.ref D) env = (do
      standAt i1.pos
      match ← pyNext it with
      | none => pure (.done .next)
      | some v =>
        letOwnedTupleGo t1 it v
        assign t1 env v
        let mut ok := true
        for c in ifs1 do
          if ok then ok ← isTrue c env (eval c env)
        if ok then
          (do
            let kv ← eval kx env
            let vv ← holding [kv] (eval vx env)
            standAt { kx.pos with endLine := vx.pos.endLine, endCol := vx.pos.endCol }
            holding [kv, vv] (dictSet D kv vv))
        again (.compLoop (.DictComp kx vx [⟨t0, i0, ifs0, 0⟩, ⟨t1, i1, ifs1, 0⟩] scope pos) 1 it (.ref D) env)) := by rfl

section
variable {prog : Program} {w : World} {A : Around} {R : Result → Shared → Prop} {s : Shared} {kx vx t0 i0 t1 i1 : Expr} {ifs0 ifs1 : List Expr} {scope : Scope} {pos : Pos} {it acc : Value} {env : Env}
/-- the loop of the first clause -/
theorem compLoop2_outD (hs : ∀ x, foldedSetIterable i1 env x = pure x) (I : Nat → Shared → Prop)
    (turn : ∀ n s, I n s → wpAny (model prog w) A (pyNext it) (fun r s₁ => match r with
      | none => R (.ok .next) s₁
      | some v => wpAny (model prog w) A (letOwnedTupleGo t0 it v) (fun _ s₁' => wpAny (model prog w) A (assign t0 env v) (fun _ s₂ =>
          wpAny (model prog w) A (forIn ifs0 true fun c r => if r = true then do let ok ← isTrue c env (eval c env); pure (ForInStep.yield ok) else pure (ForInStep.yield r)) (fun ok s₃ =>
            if ok = true then wpAny (model prog w) A (eval i1 env) (fun x s₄ => wpAny (model prog w) A (pyIter x) (fun it1 s₅ =>
              codeAny (model prog w) A (.compStart (.DictComp kx vx [⟨t0, i0, ifs0, 0⟩, ⟨t1, i1, ifs1, 0⟩] scope pos) 1 it1 acc env) (fun r s' => match r with
                | .ok _ => ∃ m, m < n ∧ I m s'
                | .error _ => False) s₅) (notedBy (model prog w) A env fun e s' => R (.error e) s') s₄) (notedBy (model prog w) A env fun e s' => R (.error e) s') s₃
            else ∃ m, m < n ∧ I m s₃) (notedBy (model prog w) A env fun e s' => R (.error e) s') s₂) (notedBy (model prog w) A env fun e s' => R (.error e) s') s₁') (notedBy (model prog w) A env fun e s' => R (.error e) s') s₁) (notedBy (model prog w) A env fun e s' => R (.error e) s') s)
    (n : Nat) (h : I n s) :
    codeAny (model prog w) A (.compLoop (.DictComp kx vx [⟨t0, i0, ifs0, 0⟩, ⟨t1, i1, ifs1, 0⟩] scope pos) 0 it acc env) R s := by
  refine codeAny_loop rfl I (fun n s hI => ?_) n h
  show wpAny _ A ((compTurn (.DictComp kx vx [⟨t0, i0, ifs0, 0⟩, ⟨t1, i1, ifs1, 0⟩] scope pos) 0 it acc env).onRaise (fun x => do noteFrame x env; theTreesLotGoes x)) _ _ s
  refine wpAny_noted ?_
  rw [compTurn2_outD]
  refine wpAny_bind (wpAny_standAt (wpAny_bind (wpAny_mono (turn n s hI) (fun r s₁ h₁ => ?_) fun _ _ h' => h')))
  cases r with
  | none => exact wpAny_pure h₁
  | some v =>
    refine wpAny_bind (wpAny_mono h₁ (fun _ s₁' h₁' => ?_) fun _ _ h' => h')
    refine wpAny_bind (wpAny_mono h₁' (fun _ s₂ h₂ => wpAny_bind (wpAny_mono h₂ (fun ok s₃ h₃ => ?_) fun _ _ h' => h')) fun _ _ h' => h')
    cases ok with
    | false => exact wpAny_pure ⟨rfl, h₃⟩
    | true =>
      refine wpAny_bind (wpAny_mono h₃ (fun x s₄ h₄ => ?_) fun _ _ h' => h')
      refine wpAny_bind (wpAny_standAt (wpAny_bind (wpAny_of_eq (hs x) (wpAny_bind (wpAny_holding (wpAny_mono h₄ (fun it1 s₅ h₅ => ?_) fun _ _ h' => h'))))))
      refine wpAny_bind (wpAny_runOwn ?_)
      rw [Around.mark_none]
      refine codeAny_mono h₅ fun r s' hr => ?_
      cases r with
      | ok f =>
        first
          | exact wpAny_pure ⟨rfl, hr⟩
          | exact wpAny_bind (wpAny_pure (wpAny_pure ⟨rfl, hr⟩))
      | error e => exact hr.elim
/-- the loop of the second -/
theorem compLoop2_inD {D : Addr} (I : Nat → Shared → Prop)
    (turn : ∀ n s, I n s → wpAny (model prog w) A (pyNext it) (fun r s₁ => match r with
      | none => R (.ok .next) s₁
      | some v => wpAny (model prog w) A (letOwnedTupleGo t1 it v) (fun _ s₁' => wpAny (model prog w) A (assign t1 env v) (fun _ s₂ =>
          wpAny (model prog w) A (forIn ifs1 true fun c r => if r = true then do let ok ← isTrue c env (eval c env); pure (ForInStep.yield ok) else pure (ForInStep.yield r)) (fun ok s₃ =>
            if ok = true then wpAny (model prog w) A (eval kx env) (fun kv s₄ => wpAny (model prog w) A (eval vx env) (fun vv s₅ =>
              wpAny (model prog w) A (dictSet D kv vv) (fun _ s₆ => ∃ m, m < n ∧ I m s₆) (notedBy (model prog w) A env fun e s' => R (.error e) s') s₅) (notedBy (model prog w) A env fun e s' => R (.error e) s') s₄) (notedBy (model prog w) A env fun e s' => R (.error e) s') s₃
            else ∃ m, m < n ∧ I m s₃) (notedBy (model prog w) A env fun e s' => R (.error e) s') s₂) (notedBy (model prog w) A env fun e s' => R (.error e) s') s₁') (notedBy (model prog w) A env fun e s' => R (.error e) s') s₁) (notedBy (model prog w) A env fun e s' => R (.error e) s') s)
    (n : Nat) (h : I n s) :
    codeAny (model prog w) A (.compLoop (.DictComp kx vx [⟨t0, i0, ifs0, 0⟩, ⟨t1, i1, ifs1, 0⟩] scope pos) 1 it (.ref D) env) R s := by
  refine codeAny_loop rfl I (fun n s hI => ?_) n h
  show wpAny _ A ((compTurn (.DictComp kx vx [⟨t0, i0, ifs0, 0⟩, ⟨t1, i1, ifs1, 0⟩] scope pos) 1 it (.ref D) env).onRaise (fun x => do noteFrame x env; theTreesLotGoes x)) _ _ s
  refine wpAny_noted ?_
  rw [compTurn2_inD]
  refine wpAny_bind (wpAny_standAt (wpAny_bind (wpAny_mono (turn n s hI) (fun r s₁ h₁ => ?_) fun _ _ h' => h')))
  cases r with
  | none => exact wpAny_pure h₁
  | some v =>
    refine wpAny_bind (wpAny_mono h₁ (fun _ s₁' h₁' => ?_) fun _ _ h' => h')
    refine wpAny_bind (wpAny_mono h₁' (fun _ s₂ h₂ => wpAny_bind (wpAny_mono h₂ (fun ok s₃ h₃ => ?_) fun _ _ h' => h')) fun _ _ h' => h')
    cases ok with
    | false => exact wpAny_pure ⟨rfl, h₃⟩
    | true =>
      exact wpAny_bind (wpAny_bind (wpAny_mono h₃ (fun kv s₄ h₄ => wpAny_bind (wpAny_holding (wpAny_mono h₄ (fun vv s₅ h₅ => wpAny_bind (wpAny_standAt (wpAny_holding (wpAny_mono h₅ (fun _ s₆ h₆ => wpAny_pure ⟨rfl, h₆⟩) fun _ _ h' => h')))) fun _ _ h' => h'))) fun _ _ h' => h'))
/-- the second clause's start -/
theorem compStart1_okD (h0 : codeAny (model prog w) A (.compLoop (.DictComp kx vx [⟨t0, i0, ifs0, 0⟩, ⟨t1, i1, ifs1, 0⟩] scope pos) 1 it acc env) R s)
    (h : wpAny (model prog w) A (pyIter it) (fun it' s' => codeAny (model prog w) A (.compLoop (.DictComp kx vx [⟨t0, i0, ifs0, 0⟩, ⟨t1, i1, ifs1, 0⟩] scope pos) 1 it' acc env) R s')
      (notedBy (model prog w) A env fun x s' => R (.error x) s') s) :
    codeAny (model prog w) A (.compStart (.DictComp kx vx [⟨t0, i0, ifs0, 0⟩, ⟨t1, i1, ifs1, 0⟩] scope pos) 1 it acc env) R s := by
  refine codeAny_of_tree ?_
  show wpAny _ _ ((compStart (.DictComp kx vx [⟨t0, i0, ifs0, 0⟩, ⟨t1, i1, ifs1, 0⟩] scope pos) 1 it acc env).onRaise (fun x => do noteFrame x env; standAt theWindowsPlace)) _ _ s
  refine wpAny_notedAt ?_
  unfold compStart
  show wpAny _ _ (ask >>= _) _ _ s
  refine wpAny_bind (wpAny_askSetting (wpAny_ite ?_))
  split
  · first
      | exact wpAny_bind (wpAny_pure (wpAny_pure (And.intro rfl h0)))
      | exact wpAny_pure (And.intro rfl h0)
  · first
      | exact wpAny_bind (wpAny_rule (wpAny_bind (wpAny_standAt (wpAny_bind (wpAny_mono h (fun it' s' h' => wpAny_pure (And.intro rfl h')) fun _ _ x => x)))))
      | (refine wpAny_bind (wpAny_rule ?_); show wpAny _ _ (standAt i1.pos >>= _) _ _ s; exact wpAny_bind (wpAny_standAt (wpAny_bind (wpAny_mono h (fun it' s' h' => wpAny_pure (And.intro rfl h')) fun _ _ x => x))))
end

section
variable {X : Cx}
/-- [elt for tg in iter if .. for tg1 in iter1 if ..]: behind the first clause's store and tests the second source's own loop, from which Nx is reached. vs: the block's names; vs1: those of the second target -/
def tLc2D (wi : TI) (g : TG) (tt : TT) (wi1 : TI) (g1 : TG) (tt1 : TT) (tk tv : TE) (vs vs1 : List Nat) : TE := fun σ H Q => wi σ H fun J H1 => ∀ D, H1 D = none → ∃ W : Nat → Nat → Hp → Prop, (∃ m, W 0 m (upd H1 D (.dK []))) ∧ ∀ i m H, W i m H →
  (J.stop i H ∧ Q (.ref D) H) ∨ (J.go i H ∧ ∃ Nx : Hp → Prop, (∀ H', Nx H' → ∃ m', m' < m ∧ W (i + 1) m' H') ∧ ∀ x H', J.yld i H x H' → g x (wipe σ vs) H' fun σ2 H2 => wipe σ2 vs = wipe σ vs ∧ tt σ2 H2 fun b H3 =>
    if b = true then wi1 σ2 H3 fun J1 H4 => ∃ W1 : Nat → Nat → Hp → Prop, (∃ m, W1 0 m H4) ∧ ∀ j k H, W1 j k H →
      (J1.stop j H ∧ Nx H) ∨ (J1.go j H ∧ ∃ Nx1 : Hp → Prop, (∀ H', Nx1 H' → ∃ k', k' < k ∧ W1 (j + 1) k' H') ∧ ∀ x H', J1.yld j H x H' → g1 x (wipe σ2 vs1) H' fun σ3 H5 => wipe σ3 vs1 = wipe σ2 vs1 ∧ tt1 σ3 H5 fun b H6 =>
        if b = true then tk σ3 H6 fun y H7 => tv σ3 H7 fun z H8 => ∃ kvs k, y = kV k ∧ H8 D = some (.dK kvs) ∧ kvs.length < sizeLine ∧ Nx1 (upd H8 D (.dK (putK kvs k z))) else Nx1 H6)
    else Nx H3)
theorem lc2_coreD {pins : List (Addr × Obj)} {s : Shared} {σ : L2.St} {H : Hp} {Q : VK} {kx vx tg iter tg1 iter1 : Expr} {ifs ifs1 : List Expr} {scope : Scope} {own : List (Str × Nat)} {vs1 : List Nat} {pos pos' : Pos} {wi wi1 : TI} {g g1 : TG} {tt tt1 : TT} {tk tv : TE} {use : Option (Value → Sem Unit)} {Qf : Value → Shared → Prop}
    (hc : X.calm = true) (hN : X.N.Nodup) (I : Inv X pins σ H s) (hi : PI X tg iter wi) (ok : BlkOk X.N X.env.scope scope own) (hv : ∀ i ∈ vs1, i ∈ own.map (·.2))
    (hg : ∀ (s : Shared) (H : Hp) (C : Addr) (cl : List (Str × Addr)) (fp : List Addr), PG (X.blk s H scope (compEnvC scope cl C X.env) fp) tg g) (ht : ∀ (s : Shared) (H : Hp) (C : Addr) (cl : List (Str × Addr)) (fp : List Addr), PTs (X.blk s H scope (compEnvC scope cl C X.env) fp) ifs tt)
    (hk : ∀ (s : Shared) (H : Hp) (C : Addr) (cl : List (Str × Addr)) (fp : List Addr), PE (X.blk s H scope (compEnvC scope cl C X.env) fp) kx tk) (he : ∀ (s : Shared) (H : Hp) (C : Addr) (cl : List (Str × Addr)) (fp : List Addr), PE (X.blk s H scope (compEnvC scope cl C X.env) fp) vx tv) (hs : ∀ x, foldedSetIterable iter X.env x = pure x)
    (hi1 : ∀ (s : Shared) (H : Hp) (C : Addr) (cl : List (Str × Addr)) (fp : List Addr), PI (X.blk s H scope (compEnvC scope cl C X.env) fp) tg1 iter1 wi1)
    (hg1 : ∀ (s : Shared) (H : Hp) (C : Addr) (cl : List (Str × Addr)) (fp : List Addr), PG (X.blk s H scope (compEnvC scope cl C X.env) fp) tg1 g1)
    (ht1 : ∀ (s : Shared) (H : Hp) (C : Addr) (cl : List (Str × Addr)) (fp : List Addr), PTs (X.blk s H scope (compEnvC scope cl C X.env) fp) ifs1 tt1)
    (hs1 : ∀ env x, foldedSetIterable iter1 env x = pure x)
    (h : tLc2D wi g tt wi1 g1 tt1 tk tv (own.map (·.2)) vs1 σ H Q)
    (hRR : ∀ D C s' m H', Inv X pins σ H' s' → Q (.ref D) H' → s'.heap.Ns C m → FpOk X pins H' C → compPost (model X.prog X.w) X.A X.xe use Qf (.ref D) C (.ok .next) s') :
    wpAny (model X.prog X.w) X.A (comprehension (.DictComp kx vx [⟨tg, iter, ifs, 0⟩, ⟨tg1, iter1, ifs1, 0⟩] scope pos) scope X.env pos' newDict false (eval iter X.env) use) Qf X.xe s := by
  have hfree : ∀ y ∈ scope.names, y.2 = .free → ∃ c, X.env.cells.lookup y.1 = some c := fun y hy e => by
    rcases ok.free y hy e with k | k
    · exact I.ok.has _ (.inl k)
    · exact I.ok.has _ (.inr k)
  refine wpAny_comprehension_free (use := use) rfl hs (closure_ok hfree) ok.kind (fun y hy e => by rw [ok.uniq y hy, e])
    (thn (hi.run pins s σ H _ I h) fun xv s1 hx => thn hx fun itv s2 h2 => ?_)
  obtain ⟨it, fp, tn, J, H2, e, I2, T, st2, f2, q⟩ := h2
  subst e
  refine wpAny_newObj_type (newEnv_comp ?_)
  generalize hD : s2.heap.objs.size = D
  have hDn : H2 D = none := I2.hok.fresh (Nat.le_of_eq hD)
  obtain ⟨W, ⟨m0, w0⟩, turn⟩ := q D hDn
  -- the new list
  generalize hs3 : ({ s2 with heap := s2.heap.push { cls := .type "dict", data := .dict #[] } } : Shared) = s3
  have I3 : Inv X pins σ (upd H2 D (.dK [])) s3 := by
    rw [← hs3]
    refine I2.laid (t' := s2.toks) (fun b o e => Heap.get?_push_of_some _ e) (Nat.le_of_eq hD) ?_
    rw [← hD]
    exact dk_empty s2.heap I2.big
  have h3 : s3.heap = s2.heap.push { cls := .type "dict", data := .dict #[] } := by rw [← hs3]
  have sz : ∀ b ∈ fp, b < s2.heap.objs.size := fun b hb => by
    obtain ⟨o, e, _⟩ := T.obj _ _ st2 b hb
    exact Heap.lt_size e
  have f3 : ∀ b ∈ fp, FpOk X pins (upd H2 D (.dK [])) b ∧ b < s3.heap.objs.size := fun b hb => by
    have hlt := sz b hb
    refine ⟨⟨?_, (f2 b hb).2⟩, by rw [h3, Heap.size_push]; exact Nat.lt_succ_of_lt hlt⟩
    rw [upd_ne (by rw [← hD]; exact Nat.ne_of_lt hlt)]
    exact (f2 b hb).1
  have st3 : tn 0 s3.heap := T.keep _ _ _ st2 fun b _ o e => by rw [h3]; exact Heap.get?_push_of_some _ e
  have I4 := block_start I3 ok hN f3
  have pg := hg s3 (upd H2 D (.dK [])) s3.heap.objs.size (cellsFrom (s3.heap.objs.size + 1) scope.names (cloFrom X.env.cells scope.names [])) fp
  have pt := ht s3 (upd H2 D (.dK [])) s3.heap.objs.size (cellsFrom (s3.heap.objs.size + 1) scope.names (cloFrom X.env.cells scope.names [])) fp
  have pk := hk s3 (upd H2 D (.dK [])) s3.heap.objs.size (cellsFrom (s3.heap.objs.size + 1) scope.names (cloFrom X.env.cells scope.names [])) fp
  have pe := he s3 (upd H2 D (.dK [])) s3.heap.objs.size (cellsFrom (s3.heap.objs.size + 1) scope.names (cloFrom X.env.cells scope.names [])) fp
  have pi1 := hi1 s3 (upd H2 D (.dK [])) s3.heap.objs.size (cellsFrom (s3.heap.objs.size + 1) scope.names (cloFrom X.env.cells scope.names [])) fp
  have pg1 := hg1 s3 (upd H2 D (.dK [])) s3.heap.objs.size (cellsFrom (s3.heap.objs.size + 1) scope.names (cloFrom X.env.cells scope.names [])) fp
  have pt1 := ht1 s3 (upd H2 D (.dK [])) s3.heap.objs.size (cellsFrom (s3.heap.objs.size + 1) scope.names (cloFrom X.env.cells scope.names [])) fp
  show codeAny _ _ (.compStart (.DictComp kx vx [⟨tg, iter, ifs, 0⟩, ⟨tg1, iter1, ifs1, 0⟩] scope pos) 0 (.ref it) (.ref D) (compEnvC scope (cellsFrom (s3.heap.objs.size + 1) scope.names (cloFrom X.env.cells scope.names [])) s3.heap.objs.size X.env)) (compPost (model X.prog X.w) X.A X.xe use Qf (.ref D) s3.heap.objs.size) { s3 with heap := pushCells (s3.heap.push { cls := .type "dict", data := .dict #[] }) scope.names }
  have nfp : ∀ b ∈ fp, (upd H2 D (.dK [])) b = none := fun b hb => (f3 b hb).1.1
  generalize hce : compEnvC scope (cellsFrom (s3.heap.objs.size + 1) scope.names (cloFrom X.env.cells scope.names [])) s3.heap.objs.size X.env = ce at I4 pg pt pk pe pi1 pg1 pt1 ⊢
  have cL : ce.locals = s3.heap.objs.size := by subst hce; rfl
  generalize hH3 : upd H2 D (.dK []) = H3 at I3 I4 pg pt pk pe pi1 pg1 pt1 w0 nfp f3
  generalize hs4 : ({ s3 with heap := pushCells (s3.heap.push { cls := .type "dict", data := .dict #[] }) scope.names } : Shared) = s4 at I4 ⊢
  have st4 : tn 0 s4.heap := T.keep _ _ _ st3 fun b _ o e => by rw [← hs4]; exact pushCells_keeps _ _ _ _ (Heap.get?_push_of_some _ e)
  have stat : ∀ {σ' : L2.St} {H' : Hp} {s' : Shared}, Inv (X.blk s3 H3 scope ce fp) [] σ' H' s' → (∀ b ∈ fp, H' b = none) → ∀ b ∈ fp, FpOk (X.blk s3 H3 scope ce fp) [] H' b := fun {σ' H' s'} I' hn b hb =>
    ⟨hn b hb, (I'.ok.exf b hb).1, I'.ok.exfs b hb, .inl hb, fun x c e => (I'.ok.exf b hb).2 x c e, fun p hp => absurd (show p ∈ ([] : List (Addr × Obj)) ++ [] from hp) (by simp)⟩
  have loop : codeAny (model X.prog X.w) X.A (.compLoop (.DictComp kx vx [⟨tg, iter, ifs, 0⟩, ⟨tg1, iter1, ifs1, 0⟩] scope pos) 0 (.ref it) (.ref D) ce) (compPost (model X.prog X.w) X.A X.xe use Qf (.ref D) s3.heap.objs.size) s4 := by
    refine compLoop2_outD (hs1 ce) (fun n s' => ∃ i H', Inv (X.blk s3 H3 scope ce fp) [] (wipe σ (own.map (·.2))) H' s' ∧ tn i s'.heap ∧ (∀ b ∈ fp, H' b = none) ∧ W i n H') ?_ m0 ⟨0, H3, I4, st4, nfp, w0⟩
    rintro n s5 ⟨i, H5, I5, st5, n5, w5⟩
    rcases turn i n H5 w5 with ⟨stop, qq⟩ | ⟨go, Nx, hNx, step⟩
    · have td := T.done (X.blk s3 H3 scope ce fp) rfl rfl rfl hc i [] s5 _ H5 (fun _ _ => False) I5 (stat I5 n5) st5 stop
      refine thnF td fun r s6 ⟨hr, I6⟩ => ?_
      subst hr
      -- back in the def's context
      have I7 : Inv X pins σ H5 s6 := I3.call' (ch := fp) I6.os I6.base I6.hok I6.bare fun b hb => ⟨(f3 b hb).1.2.2.2.1, (f3 b hb).1.2.1, (f3 b hb).1.2.2.2.2.1, (f3 b hb).1.2.2.2.2.2⟩
      have nC : H5 s3.heap.objs.size = none := by
        have z : H5 ce.locals = none := I6.free
        rw [cL] at z
        exact z
      obtain ⟨m, hn, _⟩ := I6.loc
      have hn : s6.heap.Ns ce.locals m := hn
      rw [cL] at hn
      exact hRR D s3.heap.objs.size s6 m H5 I7 qq hn (I3.fpOk (Nat.le_refl _) nC)
    · have ti := T.item (X.blk s3 H3 scope ce fp) rfl rfl rfl hc i [] s5 _ H5 (fun _ _ => False) I5 (stat I5 n5) st5 go
      refine thnF ti fun r s6 ⟨u, hr, h6⟩ => ?_
      subst hr
      refine thnF h6 fun _ s7 ⟨x, H7, I7, r7, y7, st7, n7⟩ => ?_
      have I7' := I7.pinned (stat I7 n7) (T.obj _ _ st7)
      refine thnF (pg.run _ s7 _ H7 x u _ I7' r7 (step x H7 y7)) fun _ s8 ⟨σ8, H8, I8, hw8, q8⟩ => ?_
      refine thnF (pt.run _ s8 σ8 H8 _ I8 q8) fun b s9 ⟨H9, I9, q9⟩ => ?_
      -- the turn's end, from any slots that know what the block knew at its start
      have fin : ∀ {σ9 : L2.St} {s' : Shared} {H' : Hp}, Inv (X.blk s3 H3 scope ce fp) ([] ++ pinsAt fp s7.heap) σ9 H' s' → (wipe σ (own.map (·.2))).length = σ9.length → (∀ (j : Nat) v, (wipe σ (own.map (·.2)))[j]? = some (some v) → σ9[j]? = some (some v)) → Nx H' →
          ∃ m, m < n ∧ ∃ i H', Inv (X.blk s3 H3 scope ce fp) [] (wipe σ (own.map (·.2))) H' s' ∧ tn i s'.heap ∧ (∀ b ∈ fp, H' b = none) ∧ W i m H' := fun {σ9 s' H'} I' hl hk nx => by
        obtain ⟨m', hm, w'⟩ := hNx H' nx
        have pin' : ∀ b ∈ fp, ∀ o, s7.heap.get? b = some o → s'.heap.get? b = some o ∧ H' b = none := fun b hb o e =>
          let z := I'.pin (b, o) (List.mem_append_right _ (List.mem_append_right _ (mem_pinsAt hb e)))
          ⟨z.1, z.2.1⟩
        refine ⟨m', hm, i + 1, H', (I'.unpinned (pins := [])).weak hl hk, T.keep _ _ _ st7 fun b hb o e => (pin' b hb o e).1, fun b hb => ?_, w'⟩
        obtain ⟨o, e, _⟩ := T.obj _ _ st7 b hb
        exact (pin' b hb o e).2
      have hl8 : (wipe σ (own.map (·.2))).length = σ8.length := by rw [← hw8, wipe_length]
      have hk8 : ∀ (j : Nat) v, (wipe σ (own.map (·.2)))[j]? = some (some v) → σ8[j]? = some (some v) := fun j v e => by
        rw [← hw8] at e
        exact (wipe_some e).1
      have hk9 : ∀ (j : Nat) v, (wipe σ (own.map (·.2)))[j]? = some (some v) → (wipe σ8 vs1)[j]? = some (some v) := fun j v e => by
        rw [← hw8] at e
        obtain ⟨e1, e2⟩ := wipe_some e
        rw [wipe_out fun z => e2 (hv j z)]
        exact e1
      cases b with
      | false =>
        simp only [Bool.false_eq_true, if_false] at q9 ⊢
        exact fin I9 hl8 hk8 q9
      | true =>
        simp only [if_true] at q9 ⊢
        refine thnF (pi1.run _ s9 σ8 H9 _ I9 q9) fun xv s10 hx => thnF hx fun itv s11 h11 => ?_
        obtain ⟨it1, fp1, tn1, J1, H11, e1, I11, T1, st11, f11, W1, ⟨m1, w1⟩, turn1⟩ := h11
        subst e1
        -- the inner loop
        have stat1 : ∀ {H' : Hp}, (∀ b ∈ fp1, H' b = none) → ∀ b ∈ fp1, FpOk (X.blk s3 H3 scope ce fp) ([] ++ pinsAt fp s7.heap) H' b := fun hn b hb => ⟨hn b hb, (f11 b hb).2⟩
        have loop1 : codeAny (model X.prog X.w) X.A (.compLoop (.DictComp kx vx [⟨tg, iter, ifs, 0⟩, ⟨tg1, iter1, ifs1, 0⟩] scope pos) 1 (.ref it1) (.ref D) ce)
            (fun r s' => match r with
              | .ok _ => ∃ m, m < n ∧ ∃ i H', Inv (X.blk s3 H3 scope ce fp) [] (wipe σ (own.map (·.2))) H' s' ∧ tn i s'.heap ∧ (∀ b ∈ fp, H' b = none) ∧ W i m H'
              | .error _ => False) s11 := by
          refine compLoop2_inD (fun k s' => ∃ j H', Inv (X.blk s3 H3 scope ce fp) ([] ++ pinsAt fp s7.heap) (wipe σ8 vs1) H' s' ∧ tn1 j s'.heap ∧ (∀ b ∈ fp1, H' b = none) ∧ W1 j k H') ?_ m1 ⟨0, H11, I11.weak (wipe_length _ _) (fun j v e => (wipe_some e).1), st11, fun b hb => (f11 b hb).1, w1⟩
          rintro k s12 ⟨j, H12, I12, st12, n12, w12⟩
          rcases turn1 j k H12 w12 with ⟨stop1, nx1⟩ | ⟨go1, Nx1, hNx1, step1⟩
          · refine thnF (T1.done (X.blk s3 H3 scope ce fp) rfl rfl rfl hc j _ s12 (wipe σ8 vs1) H12 (fun _ _ => False) I12 (stat1 n12) st12 stop1) fun r s13 ⟨hr, I13⟩ => ?_
            subst hr
            exact fin I13 (hl8.trans (wipe_length σ8 vs1).symm) hk9 nx1
          · refine thnF (T1.item (X.blk s3 H3 scope ce fp) rfl rfl rfl hc j _ s12 (wipe σ8 vs1) H12 (fun _ _ => False) I12 (stat1 n12) st12 go1) fun r s13 ⟨u1, hr, h13⟩ => ?_
            subst hr
            refine thnF h13 fun _ s14 ⟨x1, H14, I14, r14, y14, st14, n14⟩ => ?_
            have I14' := I14.pinned (stat1 n14) (T1.obj _ _ st14)
            refine thnF (pg1.run _ s14 (wipe σ8 vs1) H14 x1 u1 _ I14' r14 (step1 x1 H14 y14)) fun _ s15 ⟨σ15, H15, I15, hw15, q15⟩ => ?_
            refine thnF (pt1.run _ s15 σ15 H15 _ I15 q15) fun b1 s16 ⟨H16, I16, q16⟩ => ?_
            have fin1 : ∀ {s' : Shared} {H' : Hp}, Inv (X.blk s3 H3 scope ce fp) (([] ++ pinsAt fp s7.heap) ++ pinsAt fp1 s14.heap) σ15 H' s' → Nx1 H' → ∃ m, m < k ∧ ∃ j H', Inv (X.blk s3 H3 scope ce fp) ([] ++ pinsAt fp s7.heap) (wipe σ8 vs1) H' s' ∧ tn1 j s'.heap ∧ (∀ b ∈ fp1, H' b = none) ∧ W1 j m H' := fun {s' H'} I' nx => by
              obtain ⟨m', hm, w'⟩ := hNx1 H' nx
              have pin' : ∀ b ∈ fp1, ∀ o, s14.heap.get? b = some o → s'.heap.get? b = some o ∧ H' b = none := fun b hb o e =>
                let z := I'.pin (b, o) (List.mem_append_right _ (List.mem_append_right _ (mem_pinsAt hb e)))
                ⟨z.1, z.2.1⟩
              refine ⟨m', hm, j + 1, H', I'.unpinned.weak (by rw [← hw15, wipe_length]) (fun j v e => by rw [← hw15] at e; exact (wipe_some e).1), T1.keep _ _ _ st14 fun b hb o e => (pin' b hb o e).1, fun b hb => ?_, w'⟩
              obtain ⟨o, e, _⟩ := T1.obj _ _ st14 b hb
              exact (pin' b hb o e).2
            cases b1 with
            | false =>
              simp only [Bool.false_eq_true, if_false] at q16 ⊢
              exact fin1 I16 q16
            | true =>
              simp only [if_true] at q16 ⊢
              refine thnF (pk.run _ s16 σ15 H16 _ I16 q16) fun z s17 ⟨yk, H17, I17, r17, q17⟩ => ?_
              refine thnF (pe.run _ s17 σ15 H17 _ I17 q17) fun z2 s18 ⟨yv, H18, I18, r18, kvs, k, ek, hD18, hz18, nx⟩ => ?_
              subst ek
              exact d_dictSet (X := X.blk s3 H3 scope ce fp) I18 hD18 hz18 r17 r18 fun s19 I19 => fin1 I19 nx
        exact compStart1_okD loop1 (T1.self X.A 0 _ _ _ st11 loop1)
  exact codeAny_compStart_dict loop (T.self X.A 0 _ _ _ st4 loop)

theorem pe_lc2D {kx vx tg iter tg1 iter1 : Expr} {ifs ifs1 : List Expr} {scope : Scope} {own : List (Str × Nat)} {vs1 : List Nat} {pos : Pos} {wi wi1 : TI} {g g1 : TG} {tt tt1 : TT} {tk tv : TE} (hc : X.calm = true) (hN : X.N.Nodup) (hi : PI X tg iter wi) (ok : BlkOk X.N X.env.scope scope own) (hv : ∀ i ∈ vs1, i ∈ own.map (·.2))
    (hg : ∀ (s : Shared) (H : Hp) (C : Addr) (cl : List (Str × Addr)) (fp : List Addr), PG (X.blk s H scope (compEnvC scope cl C X.env) fp) tg g) (ht : ∀ (s : Shared) (H : Hp) (C : Addr) (cl : List (Str × Addr)) (fp : List Addr), PTs (X.blk s H scope (compEnvC scope cl C X.env) fp) ifs tt)
    (hi1 : ∀ (s : Shared) (H : Hp) (C : Addr) (cl : List (Str × Addr)) (fp : List Addr), PI (X.blk s H scope (compEnvC scope cl C X.env) fp) tg1 iter1 wi1)
    (hg1 : ∀ (s : Shared) (H : Hp) (C : Addr) (cl : List (Str × Addr)) (fp : List Addr), PG (X.blk s H scope (compEnvC scope cl C X.env) fp) tg1 g1) (ht1 : ∀ (s : Shared) (H : Hp) (C : Addr) (cl : List (Str × Addr)) (fp : List Addr), PTs (X.blk s H scope (compEnvC scope cl C X.env) fp) ifs1 tt1)
    (hk : ∀ (s : Shared) (H : Hp) (C : Addr) (cl : List (Str × Addr)) (fp : List Addr), PE (X.blk s H scope (compEnvC scope cl C X.env) fp) kx tk) (he : ∀ (s : Shared) (H : Hp) (C : Addr) (cl : List (Str × Addr)) (fp : List Addr), PE (X.blk s H scope (compEnvC scope cl C X.env) fp) vx tv) (hs : ∀ x, foldedSetIterable iter X.env x = pure x := by intro _; rfl) (hs1 : ∀ env x, foldedSetIterable iter1 env x = pure x := by intro _ _; rfl) :
    PE X (.DictComp kx vx [⟨tg, iter, ifs, 0⟩, ⟨tg1, iter1, ifs1, 0⟩] scope pos) (tLc2D wi g tt wi1 g1 tt1 tk tv (own.map (·.2)) vs1) := by
  refine ⟨fun pins s σ H Q I h => ?_⟩
  rw [arm_eval_DictComp]
  refine lc2_coreD hc hN I hi ok hv hg ht hk he hs hi1 hg1 ht1 hs1 h fun D C s' m H' I' q hn f => ⟨m, hn, fun h'' sb => ?_⟩
  obtain ⟨f0, f1, f2, f3, f4, f5⟩ := f
  exact ⟨.ref D, H', I'.turned (t' := s'.toks) (fun b o hb e => (sb.2 b hb).trans e) f0 f1 f3 f4 f5, rfl, q⟩
end
end Od
end
section
set_option Elab.async false
set_option linter.all false
set_option maxRecDepth 100000
set_option maxHeartbeats 2000000
/-! name = {..}: a dict comprehension given to a local on one line -/
namespace Od
open PySem PySem.Spec PyProof.Rows L2
theorem swD_true {kx vx : Expr} {gs : List Comprehension} {scope : Scope} {pos py : Pos} {y : Str} {l : Nat} {env : Env} (hk : env.scope.kind = .function) (hy : env.scope.names.lookup y = some .local) (hl : (py.line == pos.line) = true)
    (ha : (scope.names.any fun (n, k) => n == y && (k == .local || k == .cell)) = false) : swapsWith (.DictComp kx vx gs scope pos) (some (.Name y py)) l env = pure true := by
  have ky : env.kindOf y = some .local := hy
  have hb : env.blockKind = .function := by unfold Env.blockKind; rw [hk]; rfl
  unfold swapsWith
  simp only [hb, ky, ha, Expr.pos, hl]
  rfl
section
variable {X : Cx}
theorem ps_setDc {i : Nat} {y : Str} {py : Pos} {kx vx tg iter : Expr} {ifs : List Expr} {scope : Scope} {own : List (Str × Nat)} {pos spos : Pos} {wi : TI} {g : TG} {tt : TT} {tk tv : TE} (hc : X.calm = true) (hN : X.N.Nodup) (hy : X.N[i]? = some y) (hyl : X.env.scope.names.lookup y = some .local)
    (hsw : swapsWith (.DictComp kx vx [⟨tg, iter, ifs, 0⟩] scope pos) (some (.Name y py)) spos.line X.env = pure true) (hi : PI X tg iter wi) (ok : BlkOk X.N X.env.scope scope own)
    (hg : ∀ (s : Shared) (H : Hp) (C : Addr) (cl : List (Str × Addr)) (fp : List Addr), PG (X.blk s H scope (compEnvC scope cl C X.env) fp) tg g) (ht : ∀ (s : Shared) (H : Hp) (C : Addr) (cl : List (Str × Addr)) (fp : List Addr), PTs (X.blk s H scope (compEnvC scope cl C X.env) fp) ifs tt)
    (hk : ∀ (s : Shared) (H : Hp) (C : Addr) (cl : List (Str × Addr)) (fp : List Addr), PE (X.blk s H scope (compEnvC scope cl C X.env) fp) kx tk)
    (he : ∀ (s : Shared) (H : Hp) (C : Addr) (cl : List (Str × Addr)) (fp : List Addr), PE (X.blk s H scope (compEnvC scope cl C X.env) fp) vx tv) (hs : ∀ x, foldedSetIterable iter X.env x = pure x := by intro _; rfl) :
    PS X (.Assign [.Name y py] (.DictComp kx vx [⟨tg, iter, ifs, 0⟩] scope pos) spos) (tAsg (tDc wi g tt tk tv (own.map (·.2))) (gName i)) := by
  refine ⟨fun pins s σ H D I h => ?_⟩
  rw [exec_Assign_Name_used _ _ _ _ hsw]
  refine wpAny_bind (wpAny_standAt (wpAny_bind ?_))
  show wpAny _ X.A (do let _ ← comprehension (.DictComp kx vx [⟨tg, iter, ifs, 0⟩] scope pos) scope X.env (firstIterPos [⟨tg, iter, ifs, 0⟩] pos) newDict false (eval iter X.env) (some (assign (.Name y py) X.env))) _ _ s
  have h : tDc wi g tt tk tv (own.map (·.2)) σ H (fun x H1 => gName i x σ H1 D.nx) := h
  refine wpAny_bind (thn (dc_core (Qf := fun _ s' => SP X pins D .next s') hc hN I hi ok hg ht hk he hs h fun L C s' m H' I' q hn f => ?_) fun _ s' hq => wpAny_pure (wpAny_pure hq))
  show wpAny _ _ (assign (.Name y py) X.env (.ref L)) _ _ _
  refine wpAny_assign_Name (store_ok2 (v := V.ref L) I' hN hy (.inl hyl) rfl (fun s2 I2 ⟨a, sb, ha⟩ => ?_) (.inr hyl))
  obtain ⟨f0, f1, f2, f3, f4, f5⟩ := f
  have haC : C ≠ a := by
    rcases ha with z | z
    · rw [z]; exact f1
    · exact fun e => f4 y a z e.symm
  refine ⟨m, hn.sameBut sb haC, fun h3 sb3 => ?_⟩
  exact ⟨_, H', I2.turned (t' := s2.toks) (fun b o hb e => (sb3.2 b hb).trans e) f0 f1 f3 f4 f5, q⟩
theorem ps_setDc2 {i : Nat} {y : Str} {py : Pos} {kx vx tg iter tg1 iter1 : Expr} {ifs ifs1 : List Expr} {scope : Scope} {own : List (Str × Nat)} {vs1 : List Nat} {pos spos : Pos} {wi wi1 : TI} {g g1 : TG} {tt tt1 : TT} {tk tv : TE} (hc : X.calm = true) (hN : X.N.Nodup) (hy : X.N[i]? = some y) (hyl : X.env.scope.names.lookup y = some .local)
    (hsw : swapsWith (.DictComp kx vx [⟨tg, iter, ifs, 0⟩, ⟨tg1, iter1, ifs1, 0⟩] scope pos) (some (.Name y py)) spos.line X.env = pure true) (hi : PI X tg iter wi) (ok : BlkOk X.N X.env.scope scope own) (hv : ∀ i ∈ vs1, i ∈ own.map (·.2))
    (hg : ∀ (s : Shared) (H : Hp) (C : Addr) (cl : List (Str × Addr)) (fp : List Addr), PG (X.blk s H scope (compEnvC scope cl C X.env) fp) tg g) (ht : ∀ (s : Shared) (H : Hp) (C : Addr) (cl : List (Str × Addr)) (fp : List Addr), PTs (X.blk s H scope (compEnvC scope cl C X.env) fp) ifs tt)
    (hi1 : ∀ (s : Shared) (H : Hp) (C : Addr) (cl : List (Str × Addr)) (fp : List Addr), PI (X.blk s H scope (compEnvC scope cl C X.env) fp) tg1 iter1 wi1)
    (hg1 : ∀ (s : Shared) (H : Hp) (C : Addr) (cl : List (Str × Addr)) (fp : List Addr), PG (X.blk s H scope (compEnvC scope cl C X.env) fp) tg1 g1) (ht1 : ∀ (s : Shared) (H : Hp) (C : Addr) (cl : List (Str × Addr)) (fp : List Addr), PTs (X.blk s H scope (compEnvC scope cl C X.env) fp) ifs1 tt1)
    (hk : ∀ (s : Shared) (H : Hp) (C : Addr) (cl : List (Str × Addr)) (fp : List Addr), PE (X.blk s H scope (compEnvC scope cl C X.env) fp) kx tk)
    (he : ∀ (s : Shared) (H : Hp) (C : Addr) (cl : List (Str × Addr)) (fp : List Addr), PE (X.blk s H scope (compEnvC scope cl C X.env) fp) vx tv) (hs : ∀ x, foldedSetIterable iter X.env x = pure x := by intro _; rfl) (hs1 : ∀ env x, foldedSetIterable iter1 env x = pure x := by intro _ _; rfl) :
    PS X (.Assign [.Name y py] (.DictComp kx vx [⟨tg, iter, ifs, 0⟩, ⟨tg1, iter1, ifs1, 0⟩] scope pos) spos) (tAsg (tLc2D wi g tt wi1 g1 tt1 tk tv (own.map (·.2)) vs1) (gName i)) := by
  refine ⟨fun pins s σ H D I h => ?_⟩
  rw [exec_Assign_Name_used _ _ _ _ hsw]
  refine wpAny_bind (wpAny_standAt (wpAny_bind ?_))
  show wpAny _ X.A (do let _ ← comprehension (.DictComp kx vx [⟨tg, iter, ifs, 0⟩, ⟨tg1, iter1, ifs1, 0⟩] scope pos) scope X.env (firstIterPos [⟨tg, iter, ifs, 0⟩, ⟨tg1, iter1, ifs1, 0⟩] pos) newDict false (eval iter X.env) (some (assign (.Name y py) X.env))) _ _ s
  have h : tLc2D wi g tt wi1 g1 tt1 tk tv (own.map (·.2)) vs1 σ H (fun x H1 => gName i x σ H1 D.nx) := h
  refine wpAny_bind (thn (lc2_coreD (Qf := fun _ s' => SP X pins D .next s') hc hN I hi ok hv hg ht hk he hs hi1 hg1 ht1 hs1 h fun L C s' m H' I' q hn f => ?_) fun _ s' hq => wpAny_pure (wpAny_pure hq))
  show wpAny _ _ (assign (.Name y py) X.env (.ref L)) _ _ _
  refine wpAny_assign_Name (store_ok2 (v := V.ref L) I' hN hy (.inl hyl) rfl (fun s2 I2 ⟨a, sb, ha⟩ => ?_) (.inr hyl))
  obtain ⟨f0, f1, f2, f3, f4, f5⟩ := f
  have haC : C ≠ a := by
    rcases ha with z | z
    · rw [z]; exact f1
    · exact fun e => f4 y a z e.symm
  refine ⟨m, hn.sameBut sb haC, fun h3 sb3 => ?_⟩
  exact ⟨_, H', I2.turned (t' := s2.toks) (fun b o hb e => (sb3.2 b hb).trans e) f0 f1 f3 f4 f5, q⟩
end
end Od
end
section
set_option Elab.async false
set_option linter.all false
set_option maxRecDepth 100000
set_option maxHeartbeats 2000000
set_option autoImplicit false
/-! comprehensions of two clauses, tables of ints -/
namespace Od
open PySem PySem.Spec PyProof.Rows L2
/-! ### counting -/
theorem nodup_le : ∀ (n : Nat) (l : List Nat), l.Nodup → (∀ x ∈ l, x < n) → l.length ≤ n
  | 0, [], _, _ => Nat.le_refl _
  | 0, x :: l, _, h => absurd (h x List.mem_cons_self) (Nat.not_lt_zero _)
  | n + 1, l, nd, h => by
    have h1 : (l.filter fun x => decide (x ≠ n)).length ≤ n := nodup_le n _ (nd.sublist List.filter_sublist) fun x hx => by
      have := List.mem_filter.mp hx
      have h2 := h x this.1
      have h3 : x ≠ n := of_decide_eq_true this.2
      omega
    have h2 : ∀ l : List Nat, l.Nodup → l.length ≤ (l.filter fun x => decide (x ≠ n)).length + 1 := by
      intro l
      induction l with
      | nil => intro _; exact Nat.zero_le _
      | cons a l ih =>
        intro nd
        have nd' := List.nodup_cons.mp nd
        by_cases c : a = n
        · have e : (l.filter fun x => decide (x ≠ n)) = l := List.filter_eq_self.mpr fun x hx => decide_eq_true fun e => nd'.1 (by rw [c, ← e]; exact hx)
          rw [List.filter_cons, if_neg (by simp [c]), e, List.length_cons]
          exact Nat.le_refl _
        · rw [List.filter_cons, if_pos (by simp [c]), List.length_cons, List.length_cons]
          have := ih nd'.2
          omega
    have := h2 l nd
    omega
theorem nodup_int {l : List Int} {lo : Int} {n : Nat} (nd : l.Nodup) (h : ∀ x ∈ l, lo ≤ x ∧ x < lo + n) : l.length ≤ n := by
  have := nodup_le n (l.map fun x => (x - lo).toNat) ?_ ?_
  · rwa [List.length_map] at this
  · rw [List.nodup_iff_pairwise_ne, List.pairwise_map]
    refine (List.nodup_iff_pairwise_ne.mp nd).imp_of_mem fun {a b} ha hb hab e => hab ?_
    have := h a ha
    have := h b hb
    omega
  · intro x hx
    obtain ⟨y, hy, rfl⟩ := List.mem_map.mp hx
    have := h y hy
    omega
/-! ### tables of ints -/
/-- the dict kvs has int keys; T tells what stands at a key -/
structure Tab (kvs : List (Key × V)) (T : Int → Option V) : Prop where
  val : ∀ k, valV kvs (.inl k) = T k
  ent : ∀ e ∈ kvs, ∃ k, e.1 = .inl k ∧ T k = some e.2
  nd : (kvs.map (·.1)).Nodup
theorem Tab.nil : Tab [] fun _ => none := ⟨fun _ => rfl, fun _ h => (by cases h), List.nodup_nil⟩
theorem Tab.mem {kvs : List (Key × V)} {T : Int → Option V} (t : Tab kvs T) {k : Int} {v : V} (h : T k = some v) : (Sum.inl k, v) ∈ kvs := by
  rw [← t.val] at h
  unfold valV at h
  obtain ⟨e, he, rfl⟩ := Option.map_eq_some_iff.mp h
  have h1 := List.mem_of_find?_eq_some he
  have h2 : e.1 = Sum.inl k := by simpa using List.find?_some he
  obtain ⟨a, b⟩ := e
  simp only at h2
  subst h2
  exact h1
theorem keys_put (kvs : List (Key × V)) (k : Key) (v : V) : (putK kvs k v).map (·.1) = if (valV kvs k).isSome then kvs.map (·.1) else kvs.map (·.1) ++ [k] := by
  unfold putK
  rw [valV_any]
  by_cases c : (valV kvs k).isSome = true
  · rw [if_pos c, if_pos c, List.map_map]
    apply List.map_congr_left
    intro e _
    show (if e.1 = k then (e.1, v) else e).1 = e.1
    split <;> rfl
  · rw [if_neg c, if_neg c, List.map_append]
    rfl
theorem Tab.put {kvs : List (Key × V)} {T : Int → Option V} (t : Tab kvs T) (k : Int) (v : V) : Tab (putK kvs (.inl k) v) fun j => if j = k then some v else T j := by
  refine ⟨fun j => ?_, fun e he => ?_, ?_⟩
  · rw [valV_put, t.val]
    by_cases c : j = k
    · rw [if_pos c, if_pos (by rw [c])]
    · rw [if_neg c, if_neg (fun e => c (Sum.inl.inj e))]
  · unfold putK at he
    split at he
    · obtain ⟨a, ha, rfl⟩ := List.mem_map.mp he
      obtain ⟨j, hj, hT⟩ := t.ent a ha
      by_cases c : a.1 = .inl k
      · rw [if_pos c]
        exact ⟨k, c, by rw [if_pos rfl]⟩
      · rw [if_neg c]
        exact ⟨j, hj, by rw [if_neg (fun e => c (by rw [hj, e]))]; exact hT⟩
    · rename_i hn
      rcases List.mem_append.mp he with ha | ha
      · obtain ⟨j, hj, hT⟩ := t.ent e ha
        refine ⟨j, hj, ?_⟩
        rw [if_neg]
        · exact hT
        · intro c
          apply hn
          rw [List.any_eq_true]
          exact ⟨e, ha, decide_eq_true (by rw [hj, c])⟩
      · rw [List.mem_singleton.mp ha]
        exact ⟨k, rfl, by rw [if_pos rfl]⟩
  · rw [keys_put]
    split
    · exact t.nd
    · rename_i hs
      rw [List.nodup_append]
      refine ⟨t.nd, by simp, fun a ha b hb => ?_⟩
      rw [List.mem_singleton.mp hb]
      intro c
      apply hs
      rw [← valV_any, List.any_eq_true]
      obtain ⟨e, he, rfl⟩ := List.mem_map.mp ha
      exact ⟨e, he, decide_eq_true c⟩
def keyI : Key → Int
  | .inl k => k
  | .inr _ => 0
theorem Tab.len {kvs : List (Key × V)} {T : Int → Option V} (t : Tab kvs T) {lo : Int} {n : Nat} (h : ∀ k v, T k = some v → lo ≤ k ∧ k < lo + n) : kvs.length ≤ n := by
  have e : kvs.map (·.1) = (kvs.map fun e => keyI e.1).map Sum.inl := by
    rw [List.map_map]
    apply List.map_congr_left
    intro e he
    obtain ⟨k, hk, _⟩ := t.ent e he
    show e.1 = Sum.inl (keyI e.1)
    rw [hk]
    rfl
  have nd := t.nd
  rw [e] at nd
  have nd2 : (kvs.map fun e => keyI e.1).Nodup := by
    rw [List.nodup_iff_pairwise_ne, List.pairwise_map] at nd
    rw [List.nodup_iff_pairwise_ne]
    exact nd.imp fun {a b} h c => h (by rw [c])
  have := nodup_int (lo := lo) (n := n) nd2 fun x hx => by
    obtain ⟨a, ha, rfl⟩ := List.mem_map.mp hx
    obtain ⟨k, hk, hT⟩ := t.ent a ha
    rw [hk]
    exact h k _ hT
  rwa [List.length_map] at this
/-! ### two clauses, plain values, no tests -/
/-- what the turns of a walk give, told by a list -/
def Gives (Y : Nat → Hp → V → Hp → Prop) (xs : List V) : Prop := ∀ i H x H', Y i H x H' → H' = H ∧ xs[i]? = some x
theorem gives_at {xs : List V} : Gives (YAt xs) xs := fun _ _ _ _ h => h
theorem gives_vals {kvs : List (Key × V)} : Gives (fun i H x H' => H' = H ∧ ∃ k, kvs[i]? = some (k, x)) (kvs.map (·.2)) := fun i H x H' h => ⟨h.1, by
  obtain ⟨k, e⟩ := h.2
  rw [List.getElem?_map, e]
  rfl⟩
theorem flat_take {α β : Type} (f : α → List β) (xs : List α) (i : Nat) (x : α) (h : xs[i]? = some x) : (xs.take (i + 1)).flatMap f = (xs.take i).flatMap f ++ f x := by
  rw [List.take_add_one, h, List.flatMap_append]
  simp
theorem flat_len {α β : Type} (f : α → List β) (n : Nat) (h : ∀ x, (f x).length ≤ n) : ∀ xs : List α, (xs.flatMap f).length ≤ xs.length * n
  | [] => by simp
  | x :: xs => by
    rw [List.flatMap_cons, List.length_append, List.length_cons, Nat.succ_mul]
    have := flat_len f n h xs
    have := h x
    omega
section
variable {J J1 : It} {G G1 : Hp → Prop} {Y Y1 : Nat → Hp → V → Hp → Prop} {XS YS : List V} {wi1 : TI} {i0 i1 : Nat} {te tk tv : TE} {vs vs1 : List Nat} {σ : L2.St} {H1 : Hp} {D : Addr} {Qd : Hp → Prop}
theorem lc2_pure (w : Walk J XS.length G Y) (hY : Gives Y XS) (w1 : Walk J1 YS.length G1 Y1) (hY1 : Gives Y1 YS) (hD : H1 D = none) (hG : ∀ H, Le H1 H → G H) (hG1 : ∀ H, Le H1 H → G1 H) (hn : XS.length * YS.length ≤ sizeLine) (el : V → V → V)
    (hw : ∀ x, wipe ((wipe σ vs).set i0 (some x)) vs = wipe σ vs) (hw1 : ∀ x y, wipe ((wipe ((wipe σ vs).set i0 (some x)) vs1).set i1 (some y)) vs1 = wipe ((wipe σ vs).set i0 (some x)) vs1)
    (hi : ∀ x H, x ∈ XS → Le H1 H → ∀ R : It → Hp → Prop, R J1 H → wi1 ((wipe σ vs).set i0 (some x)) H R)
    (he : ∀ x y H, x ∈ XS → y ∈ YS → Le H1 H → ∀ N : VK, N (el x y) H → te ((wipe ((wipe σ vs).set i0 (some x)) vs1).set i1 (some y)) H N)
    (hd : ∀ H, Le H1 H → H D = some (.lst (XS.flatMap fun x => YS.map fun y => el x y)) → Qd H) :
    ∃ W : Nat → Nat → Hp → Prop, (∃ m, W 0 m (upd H1 D (.lst []))) ∧ ∀ i m H, W i m H →
  (J.stop i H ∧ Qd H) ∨ (J.go i H ∧ ∃ Nx : Hp → Prop, (∀ H', Nx H' → ∃ m', m' < m ∧ W (i + 1) m' H') ∧ ∀ x H', J.yld i H x H' → gName i0 x (wipe σ vs) H' fun σ2 H2 => wipe σ2 vs = wipe σ vs ∧ tYes σ2 H2 fun b H3 =>
    if b = true then wi1 σ2 H3 fun J1 H4 => ∃ W1 : Nat → Nat → Hp → Prop, (∃ m, W1 0 m H4) ∧ ∀ j k H, W1 j k H →
      (J1.stop j H ∧ Nx H) ∨ (J1.go j H ∧ ∃ Nx1 : Hp → Prop, (∀ H', Nx1 H' → ∃ k', k' < k ∧ W1 (j + 1) k' H') ∧ ∀ x H', J1.yld j H x H' → gName i1 x (wipe σ2 vs1) H' fun σ3 H5 => wipe σ3 vs1 = wipe σ2 vs1 ∧ tYes σ3 H5 fun b H6 =>
        if b = true then te σ3 H6 fun y H7 => ∃ acc, H7 D = some (.lst acc) ∧ acc.length < sizeLine ∧ Nx1 (upd H7 D (.lst (acc ++ [y]))) else Nx1 H6)
    else Nx H3) := by
  have lenT : ∀ i, ((XS.take i).flatMap fun x => YS.map fun y => el x y).length ≤ i * YS.length := fun i => by
    have := flat_len (fun x => YS.map fun y => el x y) YS.length (fun x => by rw [List.length_map]; exact Nat.le_refl _) (XS.take i)
    have h2 : (XS.take i).length ≤ i := by rw [List.length_take]; omega
    exact Nat.le_trans this (Nat.mul_le_mul_right _ h2)
  refine ⟨fun i m H => m = XS.length - i ∧ i ≤ XS.length ∧ Le H1 H ∧ H D = some (.lst ((XS.take i).flatMap fun x => YS.map fun y => el x y)), ⟨_, rfl, Nat.zero_le _, Le.new hD, by rw [upd_self]; simp⟩, ?_⟩
  rintro i m H ⟨rfl, hiX, le, e⟩
  by_cases hlt : i < XS.length
  · refine .inr ⟨w.goes i H hlt (hG H le), fun H' => Le H1 H' ∧ H' D = some (.lst ((XS.take (i + 1)).flatMap fun x => YS.map fun y => el x y)), fun H' p => ⟨XS.length - (i + 1), by omega, rfl, hlt, p⟩, fun x H' y => ?_⟩
    obtain ⟨rfl, hx⟩ := hY i H x H' (w.yields i H x H' hlt (hG H le) y)
    have hxm := List.mem_of_getElem? hx
    refine ⟨hw x, ?_⟩
    show wi1 ((wipe σ vs).set i0 (some x)) H' _
    refine hi x H' hxm le _ ?_
    refine ⟨fun j k H => k = YS.length - j ∧ j ≤ YS.length ∧ Le H1 H ∧ H D = some (.lst (((XS.take i).flatMap fun x => YS.map fun y => el x y) ++ (YS.take j).map fun y => el x y)), ⟨_, rfl, Nat.zero_le _, le, by rw [e]; simp⟩, ?_⟩
    rintro j k H2 ⟨rfl, hjY, le2, e2⟩
    by_cases hlt2 : j < YS.length
    · refine .inr ⟨w1.goes j H2 hlt2 (hG1 H2 le2), fun H' => Le H1 H' ∧ H' D = some (.lst (((XS.take i).flatMap fun x => YS.map fun y => el x y) ++ (YS.take (j + 1)).map fun y => el x y)), fun H' p => ⟨YS.length - (j + 1), by omega, rfl, hlt2, p⟩, fun z H3 y3 => ?_⟩
      obtain ⟨rfl, hz⟩ := hY1 j H2 z H3 (w1.yields j H2 z H3 hlt2 (hG1 H2 le2) y3)
      refine ⟨hw1 x z, ?_⟩
      show te _ H3 _
      refine he x z H3 hxm (List.mem_of_getElem? hz) le2 _ ?_
      refine ⟨_, e2, ?_, le2.upd hD, ?_⟩
      · rw [List.length_append, List.length_map, List.length_take]
        have h1 := lenT i
        have h2 : i * YS.length + YS.length ≤ XS.length * YS.length := by
          rw [← Nat.succ_mul]
          exact Nat.mul_le_mul_right _ hlt
        omega
      · rw [upd_self, List.append_assoc, List.take_add_one, hz, List.map_append]
        rfl
    · have ej : j = YS.length := by omega
      subst ej
      refine .inl ⟨w1.stops H2 (hG1 H2 le2), le2, ?_⟩
      rw [e2, List.take_of_length_le (Nat.le_refl _), flat_take _ _ _ _ hx]
  · have ei : i = XS.length := by omega
    subst ei
    refine .inl ⟨w.stops H (hG H le), hd H le ?_⟩
    rw [e, List.take_of_length_le (Nat.le_refl _)]
/-- .. a dict: the keys' table -/
theorem dc2_pure (w : Walk J XS.length G Y) (hY : Gives Y XS) (w1 : Walk J1 YS.length G1 Y1) (hY1 : Gives Y1 YS) (hD : H1 D = none) (hG : ∀ H, Le H1 H → G H) (hG1 : ∀ H, Le H1 H → G1 H) (el : V → V → Int) (u : V) (lo : Int) (n : Nat) (hn : n < sizeLine) (hb : ∀ x ∈ XS, ∀ y ∈ YS, lo ≤ el x y ∧ el x y < lo + n)
    (hw : ∀ x, wipe ((wipe σ vs).set i0 (some x)) vs = wipe σ vs) (hw1 : ∀ x y, wipe ((wipe ((wipe σ vs).set i0 (some x)) vs1).set i1 (some y)) vs1 = wipe ((wipe σ vs).set i0 (some x)) vs1)
    (hi : ∀ x H, x ∈ XS → Le H1 H → ∀ R : It → Hp → Prop, R J1 H → wi1 ((wipe σ vs).set i0 (some x)) H R)
    (he : ∀ x y H, x ∈ XS → y ∈ YS → Le H1 H → ∀ N : VK, N (.int (el x y)) H → tk ((wipe ((wipe σ vs).set i0 (some x)) vs1).set i1 (some y)) H N)
    (hv : ∀ x y H, x ∈ XS → y ∈ YS → Le H1 H → ∀ N : VK, N u H → tv ((wipe ((wipe σ vs).set i0 (some x)) vs1).set i1 (some y)) H N)
    (hd : ∀ H kvs T, Le H1 H → H D = some (.dK kvs) → Tab kvs T → (∀ k v, T k = some v ↔ v = u ∧ ∃ x ∈ XS, ∃ y ∈ YS, k = el x y) → Qd H) :
    ∃ W : Nat → Nat → Hp → Prop, (∃ m, W 0 m (upd H1 D (.dK []))) ∧ ∀ i m H, W i m H →
  (J.stop i H ∧ Qd H) ∨ (J.go i H ∧ ∃ Nx : Hp → Prop, (∀ H', Nx H' → ∃ m', m' < m ∧ W (i + 1) m' H') ∧ ∀ x H', J.yld i H x H' → gName i0 x (wipe σ vs) H' fun σ2 H2 => wipe σ2 vs = wipe σ vs ∧ tYes σ2 H2 fun b H3 =>
    if b = true then wi1 σ2 H3 fun J1 H4 => ∃ W1 : Nat → Nat → Hp → Prop, (∃ m, W1 0 m H4) ∧ ∀ j k H, W1 j k H →
      (J1.stop j H ∧ Nx H) ∨ (J1.go j H ∧ ∃ Nx1 : Hp → Prop, (∀ H', Nx1 H' → ∃ k', k' < k ∧ W1 (j + 1) k' H') ∧ ∀ x H', J1.yld j H x H' → gName i1 x (wipe σ2 vs1) H' fun σ3 H5 => wipe σ3 vs1 = wipe σ2 vs1 ∧ tYes σ3 H5 fun b H6 =>
        if b = true then tk σ3 H6 fun y H7 => tv σ3 H7 fun z H8 => ∃ kvs k, y = kV k ∧ H8 D = some (.dK kvs) ∧ kvs.length < sizeLine ∧ Nx1 (upd H8 D (.dK (putK kvs k z))) else Nx1 H6)
    else Nx H3) := by
  refine ⟨fun i m H => m = XS.length - i ∧ i ≤ XS.length ∧ Le H1 H ∧ ∃ kvs T, H D = some (.dK kvs) ∧ Tab kvs T ∧ ∀ k v, T k = some v ↔ v = u ∧ ∃ x ∈ XS.take i, ∃ y ∈ YS, k = el x y, ⟨_, rfl, Nat.zero_le _, Le.new hD, [], _, upd_self, .nil, fun k v => ⟨fun h => (by cases h), fun ⟨_, x, hx, _⟩ => (by simp at hx)⟩⟩, ?_⟩
  rintro i m H ⟨rfl, hiX, le, kvs, T, e, tb, ht⟩
  by_cases hlt : i < XS.length
  · refine .inr ⟨w.goes i H hlt (hG H le), fun H' => Le H1 H' ∧ ∃ kvs T, H' D = some (.dK kvs) ∧ Tab kvs T ∧ ∀ k v, T k = some v ↔ v = u ∧ ∃ x ∈ XS.take (i + 1), ∃ y ∈ YS, k = el x y, fun H' p => ⟨XS.length - (i + 1), by omega, rfl, hlt, p⟩, fun x H' y => ?_⟩
    obtain ⟨rfl, hx⟩ := hY i H x H' (w.yields i H x H' hlt (hG H le) y)
    have hxm := List.mem_of_getElem? hx
    have htk : ∀ z, z ∈ XS.take (i + 1) ↔ z ∈ XS.take i ∨ z = x := fun z => by
      rw [List.take_add_one, hx, List.mem_append]
      simp
    refine ⟨hw x, ?_⟩
    show wi1 ((wipe σ vs).set i0 (some x)) H' _
    refine hi x H' hxm le _ ?_
    refine ⟨fun j k H => k = YS.length - j ∧ j ≤ YS.length ∧ Le H1 H ∧ ∃ kvs T, H D = some (.dK kvs) ∧ Tab kvs T ∧ ∀ k v, T k = some v ↔ v = u ∧ ((∃ x ∈ XS.take i, ∃ y ∈ YS, k = el x y) ∨ ∃ y ∈ YS.take j, k = el x y), ⟨_, rfl, Nat.zero_le _, le, kvs, T, e, tb, fun k v => by rw [ht]; simp⟩, ?_⟩
    rintro j k H2 ⟨rfl, hjY, le2, kvs2, T2, e2, tb2, ht2⟩
    by_cases hlt2 : j < YS.length
    · refine .inr ⟨w1.goes j H2 hlt2 (hG1 H2 le2), fun H' => Le H1 H' ∧ ∃ kvs T, H' D = some (.dK kvs) ∧ Tab kvs T ∧ ∀ k v, T k = some v ↔ v = u ∧ ((∃ x ∈ XS.take i, ∃ y ∈ YS, k = el x y) ∨ ∃ y ∈ YS.take (j + 1), k = el x y), fun H' p => ⟨YS.length - (j + 1), by omega, rfl, hlt2, p⟩, fun z H3 y3 => ?_⟩
      obtain ⟨rfl, hz⟩ := hY1 j H2 z H3 (w1.yields j H2 z H3 hlt2 (hG1 H2 le2) y3)
      have hzm := List.mem_of_getElem? hz
      refine ⟨hw1 x z, ?_⟩
      show tk _ H3 _
      refine he x z H3 hxm hzm le2 _ ?_
      refine hv x z H3 hxm hzm le2 _ ?_
      refine ⟨kvs2, .inl (el x z), rfl, e2, ?_, le2.upd hD, _, _, upd_self, tb2.put _ _, fun k v => ?_⟩
      · refine Nat.lt_of_le_of_lt (tb2.len (lo := lo) (n := n) fun k v hk => ?_) hn
        rcases ((ht2 k v).mp hk).2 with ⟨a, ha, b, hb2, rfl⟩ | ⟨b, hb2, rfl⟩
        · exact hb a (List.mem_of_mem_take ha) b hb2
        · exact hb x hxm b (List.mem_of_mem_take hb2)
      · have h3 : ∀ q, q ∈ YS.take (j + 1) ↔ q ∈ YS.take j ∨ q = z := fun q => by
          rw [List.take_add_one, hz, List.mem_append]
          simp
        by_cases c : k = el x z
        · rw [if_pos c]
          constructor
          · intro h
            exact ⟨(Option.some.inj h).symm, .inr ⟨z, (h3 z).mpr (.inr rfl), c⟩⟩
          · intro h
            rw [h.1]
        · rw [if_neg c, ht2]
          constructor
          · rintro ⟨h1, h2 | ⟨q, hq, h2⟩⟩
            · exact ⟨h1, .inl h2⟩
            · exact ⟨h1, .inr ⟨q, (h3 q).mpr (.inl hq), h2⟩⟩
          · rintro ⟨h1, h2 | ⟨q, hq, h2⟩⟩
            · exact ⟨h1, .inl h2⟩
            · rcases (h3 q).mp hq with h | rfl
              · exact ⟨h1, .inr ⟨q, h, h2⟩⟩
              · exact absurd h2 c
    · have ej : j = YS.length := by omega
      subst ej
      refine .inl ⟨w1.stops H2 (hG1 H2 le2), le2, kvs2, T2, e2, tb2, fun k v => ?_⟩
      rw [ht2, List.take_of_length_le (Nat.le_refl _)]
      constructor
      · rintro ⟨h1, ⟨a, ha, b, hb2, h⟩ | ⟨b, hb2, h⟩⟩
        · exact ⟨h1, a, (htk a).mpr (.inl ha), b, hb2, h⟩
        · exact ⟨h1, x, (htk x).mpr (.inr rfl), b, hb2, h⟩
      · rintro ⟨h1, a, ha, b, hb2, h⟩
        rcases (htk a).mp ha with ha | rfl
        · exact ⟨h1, .inl ⟨a, ha, b, hb2, h⟩⟩
        · exact ⟨h1, .inr ⟨b, hb2, h⟩⟩
  · have ei : i = XS.length := by omega
    subst ei
    refine .inl ⟨w.stops H (hG H le), hd H kvs T le e tb fun k v => ?_⟩
    rw [ht, List.take_of_length_le (Nat.le_refl _)]
/-- one clause, a dict: the keys' table -/
theorem dc_pure (w : Walk J XS.length G Y) (hY : Gives Y XS) (hD : H1 D = none) (hG : ∀ H, Le H1 H → G H) (kf : V → Int) (vf : V → V) (lo : Int) (n : Nat) (hn : n < sizeLine) (hb : ∀ x ∈ XS, lo ≤ kf x ∧ kf x < lo + n)
    (hw : ∀ x, wipe ((wipe σ vs).set i0 (some x)) vs = wipe σ vs)
    (he : ∀ x H, x ∈ XS → Le H1 H → ∀ N : VK, N (.int (kf x)) H → tk ((wipe σ vs).set i0 (some x)) H N)
    (hv : ∀ x H, x ∈ XS → Le H1 H → ∀ N : VK, N (vf x) H → tv ((wipe σ vs).set i0 (some x)) H N)
    (hd : ∀ H kvs T, Le H1 H → H D = some (.dK kvs) → Tab kvs T → (∀ k v, T k = some v → ∃ x ∈ XS, k = kf x ∧ v = vf x) → (∀ x ∈ XS, (T (kf x)).isSome = true) → Qd H) :
    ∃ W : Nat → Nat → Hp → Prop, (∃ m, W 0 m (upd H1 D (.dK []))) ∧ ∀ i m H, W i m H →
  (J.stop i H ∧ Qd H) ∨ (J.go i H ∧ ∃ Nx : Hp → Prop, (∀ H', Nx H' → ∃ m', m' < m ∧ W (i + 1) m' H') ∧ ∀ x H', J.yld i H x H' → gName i0 x (wipe σ vs) H' fun σ2 H2 => wipe σ2 vs = wipe σ vs ∧ tYes σ2 H2 fun b H3 =>
    if b = true then tk σ2 H3 fun y H4 => tv σ2 H4 fun z H5 => ∃ kvs k, y = kV k ∧ H5 D = some (.dK kvs) ∧ kvs.length < sizeLine ∧ Nx (upd H5 D (.dK (putK kvs k z))) else Nx H3) := by
  refine ⟨fun i m H => m = XS.length - i ∧ i ≤ XS.length ∧ Le H1 H ∧ ∃ kvs T, H D = some (.dK kvs) ∧ Tab kvs T ∧ (∀ k v, T k = some v → ∃ x ∈ XS.take i, k = kf x ∧ v = vf x) ∧ (∀ x ∈ XS.take i, (T (kf x)).isSome = true), ⟨_, rfl, Nat.zero_le _, Le.new hD, [], _, upd_self, .nil, fun k v h => (by cases h), fun x hx => (by simp at hx)⟩, ?_⟩
  rintro i m H ⟨rfl, hiX, le, kvs, T, e, tb, h1, h2⟩
  by_cases hlt : i < XS.length
  · refine .inr ⟨w.goes i H hlt (hG H le), fun H' => Le H1 H' ∧ ∃ kvs T, H' D = some (.dK kvs) ∧ Tab kvs T ∧ (∀ k v, T k = some v → ∃ x ∈ XS.take (i + 1), k = kf x ∧ v = vf x) ∧ (∀ x ∈ XS.take (i + 1), (T (kf x)).isSome = true), fun H' p => ⟨XS.length - (i + 1), by omega, rfl, hlt, p⟩, fun x H' y => ?_⟩
    obtain ⟨rfl, hx⟩ := hY i H x H' (w.yields i H x H' hlt (hG H le) y)
    have hxm := List.mem_of_getElem? hx
    have htk : ∀ z, z ∈ XS.take (i + 1) ↔ z ∈ XS.take i ∨ z = x := fun z => by
      rw [List.take_add_one, hx, List.mem_append]
      simp
    refine ⟨hw x, ?_⟩
    show tk ((wipe σ vs).set i0 (some x)) H' _
    refine he x H' hxm le _ ?_
    refine hv x H' hxm le _ ?_
    refine ⟨kvs, .inl (kf x), rfl, e, ?_, le.upd hD, _, _, upd_self, tb.put _ _, fun k v hk => ?_, fun z hz => ?_⟩
    · refine Nat.lt_of_le_of_lt (tb.len (lo := lo) (n := n) fun k v hk => ?_) hn
      obtain ⟨a, ha, rfl, _⟩ := h1 k v hk
      exact hb a (List.mem_of_mem_take ha)
    · by_cases c : k = kf x
      · rw [if_pos c] at hk
        exact ⟨x, (htk x).mpr (.inr rfl), c, (Option.some.inj hk).symm⟩
      · rw [if_neg c] at hk
        obtain ⟨a, ha, h3⟩ := h1 k v hk
        exact ⟨a, (htk a).mpr (.inl ha), h3⟩
    · by_cases c : kf z = kf x
      · rw [if_pos c]; rfl
      · rw [if_neg c]
        rcases (htk z).mp hz with h | rfl
        · exact h2 z h
        · exact absurd rfl c
  · have ei : i = XS.length := by omega
    subst ei
    rw [List.take_of_length_le (Nat.le_refl _)] at h1 h2
    exact .inl ⟨w.stops H (hG H le), hd H kvs T le e tb h1 h2⟩
end
end Od
end
section
set_option Elab.async false
set_option linter.all false
set_option maxRecDepth 100000
set_option maxHeartbeats 2000000
set_option autoImplicit false
/-! rules said over a written part of one's own; sorted of any number of texts -/
namespace Od
open PySem PySem.Spec PyProof.Rows L2
section
variable {X : Cx} {K : PySem.W.Frag}
theorem opR_K {f : Value → Value → Sem Value} {r : PySem.W.Frag → R2} (hK : X.K = K) (h : OpR X f (r X.K)) : OpR X f (r K) := by subst hK; exact h
theorem callR_K {v : Value} {r : PySem.W.Frag → List V → Hp → VK → Prop} (hK : X.K = K) (h : CallR X v (r X.K)) : CallR X v (r K) := by subst hK; exact h
theorem ixR_K {r : PySem.W.Frag → R2} (hK : X.K = K) (h : IxR X (r X.K)) : IxR X (r K) := by subst hK; exact h
theorem slR_K {r : PySem.W.Frag → V → Option Int → Option Int → Hp → VK → Prop} (hK : X.K = K) (h : SlR X (r X.K)) : SlR X (r K) := by subst hK; exact h
theorem pa_starK {e : Expr} {p : Pos} {es : List Expr} {te : TE} {t : TA} (hK : X.K = K) (he : PE X e te) (hr : PA X es t) (hs : starEach (.Starred e p :: es) X.env = (true, eval e X.env) :: starEach es X.env := by rfl) : PA X (.Starred e p :: es) (StX.tStar K te t) := by
  subst hK
  exact StX.pa_star he hr hs
def rLenK (K : PySem.W.Frag) : List V → Hp → VK → Prop := fun xs H Q => ∃ p ys, xs = [.ref p] ∧ (SqL K H p ys ∨ SqT K H p ys) ∧ Q (.int ys.length) H
theorem call_lenK (hK : X.K = K) : CallR X (.builtin "len") (rLenK K) := by subst hK; exact call_len_seq
def rListK (K : PySem.W.Frag) : List V → Hp → VK → Prop := fun xs H Q => ∃ p ys, xs = [.ref p] ∧ (SqL K H p ys ∨ SqT K H p ys) ∧ ∀ l, H l = none → Q (.ref l) (upd H l (.lst ys))
theorem call_listK (hK : X.K = K) : CallR X (.type "list") (rListK K) := by subst hK; exact call_list_of
/-- sorted(xs), texts, any number of them -/
def rSortedSA (K : PySem.W.Frag) : List V → Hp → VK → Prop := fun vs H Q => ∃ (a : Addr) (xs : List Str), vs = [V.ref a] ∧ SqL K H a (xs.map V.str) ∧
  ∀ (ys : List Str) (p : Addr), ys.Perm xs → sortedS ys = true → H p = none → Q (.ref p) (upd H p (.lst (ys.map V.str)))
theorem cr_sortedSA : CallR X (.builtin "sorted") (rSortedSA X.K) := by
  intro pins s σ H vs us Q I r h
  obtain ⟨a, xs, rfl, hs, q⟩ := h
  obtain ⟨its, rv, hl, hz⟩ := I.list hs
  rw [Vals.ref1 r]
  have hlen0 := rv.length
  rw [List.length_map] at hlen0 hz
  refine PyProof.Rows.sorted_strsAny hl.isList rv.strs (by rw [← hlen0]; exact hz) fun out ys h1 h2 h3 => ?_
  obtain ⟨ep, he'⟩ := PyProof.Rows.sortedAll_at s.heap its out
  have hlen : (ys.map V.str).length ≤ sizeLine := by rw [List.length_map, h2.length_eq]; exact hz
  exact ⟨.ref _, upd H (s.heap.objs.size + 1) (.lst (ys.map V.str)), I.laid (t' := s.toks) (fun _ _ => PyProof.Rows.sortedAll_old) (Nat.le_succ _) ⟨hlen, out.toList, ep, vals_of_strs h1, he'⟩, rfl, q ys _ h2 h3 (I.hok.fresh (Nat.le_succ _))⟩
end
theorem fm_bind {α β : Type} (xs : List α) (f : α → Option β) : (List.range xs.length).filterMap (fun i => (xs[i]?).bind f) = xs.filterMap f := by
  induction xs with
  | nil => rfl
  | cons x xs ih =>
    rw [List.length_cons, List.range_succ_eq_map, List.filterMap_cons]
    have e : (List.map Nat.succ (List.range xs.length)).filterMap (fun i => ((x :: xs)[i]?).bind f) = xs.filterMap f := by
      rw [List.filterMap_map, ← ih]
      rfl
    rw [e, List.filterMap_cons]
    rfl
/-- a comprehension over a walk that gives the items of XS: f x is kept (none: not) -/
theorem lc_fm {J : It} {G : Hp → Prop} {Y : Nat → Hp → V → Hp → Prop} {XS : List V} {n : Nat} (w : Walk J n G Y) (hY : Gives Y XS) {g : TG} {tt : TT} {te : TE} {vs : List Nat} {σ : L2.St} {H1 : Hp} {D : Addr} {Qd : Hp → Prop} (hD : H1 D = none) (hn : XS.length ≤ 16777216)
    (hG : ∀ H, Le H1 H → G H) (f : V → Option V)
    (hs : ∀ x H, x ∈ XS → Le H1 H → ∀ N : Option V → Hp → Prop, (∀ H2, Le H H2 → N (f x) H2) → g x (wipe σ vs) H fun σ2 H2 => wipe σ2 vs = wipe σ vs ∧ tt σ2 H2 fun b H3 => if b = true then te σ2 H3 fun y H4 => N (some y) H4 else N none H3)
    (hd : ∀ H, Le H1 H → H D = some (.lst (XS.filterMap f)) → Qd H) (en : n = XS.length := by first | rfl | simp) :
    ∃ W : Nat → Nat → Hp → Prop, (∃ m, W 0 m (upd H1 D (.lst []))) ∧ ∀ i m H, W i m H →
      (J.stop i H ∧ Qd H) ∨ (J.go i H ∧ ∃ Nx : Hp → Prop, (∀ H', Nx H' → ∃ m', m' < m ∧ W (i + 1) m' H') ∧ ∀ x H', J.yld i H x H' → g x (wipe σ vs) H' fun σ2 H2 => wipe σ2 vs = wipe σ vs ∧ tt σ2 H2 fun b H3 =>
        if b = true then te σ2 H3 fun y H4 => ∃ acc, H4 D = some (.lst acc) ∧ acc.length < sizeLine ∧ Nx (upd H4 D (.lst (acc ++ [y]))) else Nx H3) := by
  subst en
  refine lc_pure w hD (le_szl _ hn) hG (fun i H x H' h => by rw [(hY i H x H' h).1]; exact .refl) (fun i => (XS[i]?).bind f) ?_ ?_
  · intro i x H H' hi le y N hN
    obtain ⟨rfl, hx⟩ := hY i H x H' y
    refine hs x H' (List.mem_of_getElem? hx) le N fun H2 l => ?_
    have := hN H2 l
    rw [hx] at this
    exact this
  · intro H le e
    rw [fm_bind] at e
    exact hd H le e
theorem fm_map {α : Type} (xs : List α) (f : V → Option V) (g : α → V) (h : α → V) (e : ∀ x ∈ xs, f (g x) = some (h x)) : (xs.map g).filterMap f = xs.map h := by
  induction xs with
  | nil => rfl
  | cons x xs ih =>
    rw [List.map_cons, List.filterMap_cons, e x List.mem_cons_self, List.map_cons, ih fun y hy => e y (List.mem_cons_of_mem _ hy)]
theorem fm_filter {α : Type} (xs : List α) (f : V → Option V) (g : α → V) (p : α → Bool) (e : ∀ x ∈ xs, f (g x) = if p x then some (g x) else none) : (xs.map g).filterMap f = (xs.filter p).map g := by
  induction xs with
  | nil => rfl
  | cons x xs ih =>
    have h := e x List.mem_cons_self
    rw [List.map_cons, List.filterMap_cons, h, List.filter_cons]
    cases p x with
    | true => simp only [if_true, List.map_cons]; rw [ih fun y hy => e y (List.mem_cons_of_mem _ hy)]
    | false => simp only [Bool.false_eq_true, if_false]; exact ih fun y hy => e y (List.mem_cons_of_mem _ hy)
section
variable {X : Cx} {k j : Nat} {x : Str} {sp : Sp} {dvs : List V} {p pos : Pos}
/-- f(), a def of the module -/
theorem pe_c0 (c : C8.Cal X.prog X.w X.K X.mg X.base k x sp dvs) (hr : Room j X.A) (hk : k ≤ j) (hg : Gl X x) (hdb : (x == ("__debug__" : Str)) = false := by decide) : PE X (.Call (.Name x p) [] [] pos) (tCall sp dvs C8.E0 tNil) := by
  obtain ⟨f, fd, ps, ds, F, hm, kp, b, d⟩ := c.ex
  exact pe_call0 F (hr.mono hk) hg hm kp b d C8.pass0 hdb
end
theorem pg_tupK {X : Cx} {K : PySem.W.Frag} {es : List Expr} {k : Nat} {pos : Pos} {t : TGs} {n : Nat} (hK : X.K = K) (hc : X.calm = true) (h : PGs X es t)
    (hn : (assignEach es X.env).length = n := by rfl) (hst : (assignEach es X.env).findIdx? (·.1) = none := by rfl) : PG X (.Tuple es k pos) (gTup K n t) := by
  subst hK
  exact pg_tup hc h hn hst
theorem fm_zip {α β : Type} (B : List α) : ∀ (f : α → Nat → β), (List.range B.length).filterMap (fun i => (B[i]?).map fun c => f c i) = B.zipIdx.map fun p => f p.1 p.2 := by
  induction B with
  | nil => exact fun _ => rfl
  | cons x B ih =>
    intro f
    have h := ih fun c i => f c (i + 1)
    rw [List.length_cons, List.range_succ_eq_map, List.filterMap_cons, List.filterMap_map, List.zipIdx_cons, List.map_cons]
    show f x 0 :: _ = _
    congr 1
    refine Eq.trans ?_ (h.trans ?_)
    · rfl
    · rw [List.zipIdx_succ, List.map_map]
      rfl
end Od
end
section
set_option Elab.async false
set_option linter.all false
set_option maxRecDepth 100000
set_option maxHeartbeats 2000000
set_option autoImplicit false
/-! tables whose keys are texts -/
namespace Od
open PySem PySem.Spec PyProof.Rows L2
/-- the dict kvs has text keys; T tells what stands at a key -/
structure TabS (kvs : List (Key × V)) (T : Str → Option V) : Prop where
  val : ∀ k, valV kvs (.inr k) = T k
  ent : ∀ e ∈ kvs, ∃ k, e.1 = .inr k ∧ T k = some e.2
  nd : (kvs.map (·.1)).Nodup
theorem TabS.nil : TabS [] fun _ => none := ⟨fun _ => rfl, fun _ h => (by cases h), List.nodup_nil⟩
theorem TabS.mem {kvs : List (Key × V)} {T : Str → Option V} (t : TabS kvs T) {k : Str} {v : V} (h : T k = some v) : (Sum.inr k, v) ∈ kvs := by
  rw [← t.val] at h
  unfold valV at h
  obtain ⟨e, he, rfl⟩ := Option.map_eq_some_iff.mp h
  have h1 := List.mem_of_find?_eq_some he
  have h2 : e.1 = Sum.inr k := by simpa using List.find?_some he
  obtain ⟨a, b⟩ := e
  simp only at h2
  subst h2
  exact h1
theorem TabS.put {kvs : List (Key × V)} {T : Str → Option V} (t : TabS kvs T) (k : Str) (v : V) : TabS (putK kvs (.inr k) v) fun j => if j = k then some v else T j := by
  refine ⟨fun j => ?_, fun e he => ?_, ?_⟩
  · rw [valV_put, t.val]
    by_cases c : j = k
    · rw [if_pos c, if_pos (by rw [c])]
    · rw [if_neg c, if_neg (fun e => c (Sum.inr.inj e))]
  · unfold putK at he
    split at he
    · obtain ⟨a, ha, rfl⟩ := List.mem_map.mp he
      obtain ⟨j, hj, hT⟩ := t.ent a ha
      by_cases c : a.1 = .inr k
      · rw [if_pos c]
        exact ⟨k, c, by rw [if_pos rfl]⟩
      · rw [if_neg c]
        exact ⟨j, hj, by rw [if_neg (fun e => c (by rw [hj, e]))]; exact hT⟩
    · rename_i hn
      rcases List.mem_append.mp he with ha | ha
      · obtain ⟨j, hj, hT⟩ := t.ent e ha
        refine ⟨j, hj, ?_⟩
        rw [if_neg]
        · exact hT
        · intro c
          apply hn
          rw [List.any_eq_true]
          exact ⟨e, ha, decide_eq_true (by rw [hj, c])⟩
      · rw [List.mem_singleton.mp ha]
        exact ⟨k, rfl, by rw [if_pos rfl]⟩
  · rw [keys_put]
    split
    · exact t.nd
    · rename_i hs
      rw [List.nodup_append]
      refine ⟨t.nd, by simp, fun a ha b hb => ?_⟩
      rw [List.mem_singleton.mp hb]
      intro c
      apply hs
      rw [← valV_any, List.any_eq_true]
      obtain ⟨e, he, rfl⟩ := List.mem_map.mp ha
      exact ⟨e, he, decide_eq_true c⟩
/-- a key that is new goes to the end -/
theorem TabS.put_new {kvs : List (Key × V)} {T : Str → Option V} (t : TabS kvs T) (k : Str) (v : V) (h : T k = none) : putK kvs (.inr k) v = kvs ++ [(.inr k, v)] := by
  unfold putK
  rw [if_neg]
  rw [valV_any, t.val, h]
  simp
theorem len_put (kvs : List (Key × V)) (k : Key) (v : V) : (putK kvs k v).length ≤ kvs.length + 1 := by
  unfold putK
  split
  · rw [List.length_map]; omega
  · rw [List.length_append]; simp
/-- the texts of the keys -/
def keysS (kvs : List (Key × V)) : List Str := kvs.filterMap fun e => match e.1 with | .inr k => some k | .inl _ => none
theorem TabS.keys {kvs : List (Key × V)} {T : Str → Option V} (t : TabS kvs T) : kvs.map (·.1) = (keysS kvs).map Sum.inr := by
  have h := t.ent
  clear t
  unfold keysS
  induction kvs with
  | nil => rfl
  | cons e kvs ih =>
    obtain ⟨k, hk, _⟩ := h e List.mem_cons_self
    obtain ⟨a, b⟩ := e
    have hk : a = .inr k := hk
    subst hk
    rw [List.map_cons, List.filterMap_cons, ih fun x hx => h x (List.mem_cons_of_mem _ hx)]
    rfl
theorem TabS.keys_nd {kvs : List (Key × V)} {T : Str → Option V} (t : TabS kvs T) : (keysS kvs).Nodup := by
  have h := t.nd
  rw [t.keys] at h
  rw [List.nodup_iff_pairwise_ne, List.pairwise_map] at h
  rw [List.nodup_iff_pairwise_ne]
  exact h.imp fun hab e => hab (by rw [e])
theorem TabS.keys_mem {kvs : List (Key × V)} {T : Str → Option V} (t : TabS kvs T) (k : Str) : k ∈ keysS kvs ↔ (T k).isSome = true := by
  constructor
  · intro h
    unfold keysS at h
    obtain ⟨e, he, hk⟩ := List.mem_filterMap.mp h
    obtain ⟨j, hj, hT⟩ := t.ent e he
    rw [hj] at hk
    simp only [Option.some.injEq] at hk
    subst hk
    rw [hT]
    rfl
  · intro h
    obtain ⟨v, hv⟩ := Option.isSome_iff_exists.mp h
    have := t.mem hv
    unfold keysS
    exact List.mem_filterMap.mpr ⟨_, this, rfl⟩
section
variable {J : It} {G : Hp → Prop} {Y : Nat → Hp → V → Hp → Prop} {XS : List V} {i0 : Nat} {tk tv : TE} {vs : List Nat} {σ : L2.St} {H1 : Hp} {D : Addr} {Qd : Hp → Prop}
/-- {k: v for x in xs}: k may make new things -/
theorem dcS (w : Walk J XS.length G Y) (hY : Gives Y XS) (hD : H1 D = none) (hG : ∀ H, Le H1 H → G H) (kf : V → Str) (vf : V → V) (hn : XS.length < 16777216)
    (hw : ∀ x, wipe ((wipe σ vs).set i0 (some x)) vs = wipe σ vs)
    (he : ∀ x H, x ∈ XS → Le H1 H → ∀ N : VK, (∀ H', Le H H' → N (.str (kf x)) H') → tk ((wipe σ vs).set i0 (some x)) H N)
    (hv : ∀ x H, x ∈ XS → Le H1 H → ∀ N : VK, (∀ H', Le H H' → N (vf x) H') → tv ((wipe σ vs).set i0 (some x)) H N)
    (hd : ∀ H kvs T, Le H1 H → H D = some (.dK kvs) → TabS kvs T → (∀ k v, T k = some v → ∃ x ∈ XS, k = kf x ∧ v = vf x) → (∀ x ∈ XS, (T (kf x)).isSome = true) → kvs.length ≤ XS.length → Qd H) :
    ∃ W : Nat → Nat → Hp → Prop, (∃ m, W 0 m (upd H1 D (.dK []))) ∧ ∀ i m H, W i m H →
  (J.stop i H ∧ Qd H) ∨ (J.go i H ∧ ∃ Nx : Hp → Prop, (∀ H', Nx H' → ∃ m', m' < m ∧ W (i + 1) m' H') ∧ ∀ x H', J.yld i H x H' → gName i0 x (wipe σ vs) H' fun σ2 H2 => wipe σ2 vs = wipe σ vs ∧ tYes σ2 H2 fun b H3 =>
    if b = true then tk σ2 H3 fun y H4 => tv σ2 H4 fun z H5 => ∃ kvs k, y = kV k ∧ H5 D = some (.dK kvs) ∧ kvs.length < sizeLine ∧ Nx (upd H5 D (.dK (putK kvs k z))) else Nx H3) := by
  refine ⟨fun i m H => m = XS.length - i ∧ i ≤ XS.length ∧ Le H1 H ∧ ∃ kvs T, H D = some (.dK kvs) ∧ TabS kvs T ∧ kvs.length ≤ i ∧ (∀ k v, T k = some v → ∃ x ∈ XS.take i, k = kf x ∧ v = vf x) ∧ (∀ x ∈ XS.take i, (T (kf x)).isSome = true), ⟨_, rfl, Nat.zero_le _, Le.new hD, [], _, upd_self, .nil, Nat.zero_le _, fun k v h => (by cases h), fun x hx => (by simp at hx)⟩, ?_⟩
  rintro i m H ⟨rfl, hiX, le, kvs, T, e, tb, hl, h1, h2⟩
  by_cases hlt : i < XS.length
  · refine .inr ⟨w.goes i H hlt (hG H le), fun H' => Le H1 H' ∧ ∃ kvs T, H' D = some (.dK kvs) ∧ TabS kvs T ∧ kvs.length ≤ i + 1 ∧ (∀ k v, T k = some v → ∃ x ∈ XS.take (i + 1), k = kf x ∧ v = vf x) ∧ (∀ x ∈ XS.take (i + 1), (T (kf x)).isSome = true), fun H' p => ⟨XS.length - (i + 1), by omega, rfl, hlt, p⟩, fun x H' y => ?_⟩
    obtain ⟨rfl, hx⟩ := hY i H x H' (w.yields i H x H' hlt (hG H le) y)
    have hxm := List.mem_of_getElem? hx
    have htk : ∀ z, z ∈ XS.take (i + 1) ↔ z ∈ XS.take i ∨ z = x := fun z => by
      rw [List.take_add_one, hx, List.mem_append]
      simp
    refine ⟨hw x, ?_⟩
    show tk ((wipe σ vs).set i0 (some x)) H' _
    refine he x H' hxm le _ fun H2 l2 => ?_
    refine hv x H2 hxm (le.trans l2) _ fun H3 l3 => ?_
    have e3 := l3 _ _ (l2 _ _ e)
    refine ⟨kvs, .inr (kf x), rfl, e3, le_szl' (by omega), (le.trans (l2.trans l3)).upd hD, _, _, upd_self, tb.put _ _, Nat.le_trans (len_put _ _ _) (by omega), fun k v hk => ?_, fun z hz => ?_⟩
    · by_cases c : k = kf x
      · rw [if_pos c] at hk
        exact ⟨x, (htk x).mpr (.inr rfl), c, (Option.some.inj hk).symm⟩
      · rw [if_neg c] at hk
        obtain ⟨a, ha, h3⟩ := h1 k v hk
        exact ⟨a, (htk a).mpr (.inl ha), h3⟩
    · by_cases c : kf z = kf x
      · rw [if_pos c]; rfl
      · rw [if_neg c]
        rcases (htk z).mp hz with h | rfl
        · exact h2 z h
        · exact absurd rfl c
  · have ei : i = XS.length := by omega
    subst ei
    rw [List.take_of_length_le (Nat.le_refl _)] at h1 h2
    exact .inl ⟨w.stops H (hG H le), hd H kvs T le e tb h1 h2 hl⟩
end
/-- dict(pairs), the keys texts -/
theorem mergeS : ∀ (more : List (Key × V)) (kvs : List (Key × V)) (T : Str → Option V), TabS kvs T → (∀ e ∈ more, ∃ k, e.1 = .inr k) →
    ∃ T', TabS (mergeK kvs more) T' ∧ (∀ k v, T' k = some v → T k = some v ∨ (Sum.inr k, v) ∈ more) ∧ (∀ k, (T k).isSome = true → (T' k).isSome = true) ∧ (∀ k v, (Sum.inr k, v) ∈ more → (T' k).isSome = true) ∧ (mergeK kvs more).length ≤ kvs.length + more.length
  | [], kvs, T, t, _ => ⟨T, t, fun _ _ h => .inl h, fun _ h => h, fun k v h => (by cases h), Nat.le_refl _⟩
  | (k0, v0) :: more, kvs, T, t, h => by
    obtain ⟨k, hk⟩ := h (k0, v0) List.mem_cons_self
    have hk : k0 = .inr k := hk
    subst hk
    obtain ⟨T', t', h1, h2, h3, h4⟩ := mergeS more (putK kvs (.inr k) v0) _ (t.put k v0) fun e he => h e (List.mem_cons_of_mem _ he)
    refine ⟨T', t', fun j v hj => ?_, fun j hj => ?_, fun j v hj => ?_, ?_⟩
    · rcases h1 j v hj with e | e
      · have e : (if j = k then some v0 else T j) = some v := e
        by_cases c : j = k
        · rw [if_pos c] at e
          have e3 := Option.some.inj e
          rw [c, ← e3]
          exact .inr List.mem_cons_self
        · rw [if_neg c] at e
          exact .inl e
      · exact .inr (List.mem_cons_of_mem _ e)
    · refine h2 j ?_
      show (if j = k then some v0 else T j).isSome = true
      split
      · rfl
      · exact hj
    · rcases List.mem_cons.mp hj with e | e
      · refine h2 j ?_
        show (if j = k then some v0 else T j).isSome = true
        have e1 : j = k := by injection e with e1 _; injection e1
        rw [if_pos e1]
        rfl
      · exact h3 j v e
    · have := len_put kvs (.inr k) v0
      rw [List.length_cons]
      show (mergeK (putK kvs (.inr k) v0) more).length ≤ _
      omega
end Od
end
section
set_option Elab.async false
set_option linter.all false
set_option maxRecDepth 100000
set_option autoImplicit false
/-! charts: rows of days and ages, in plain words -/
namespace Od
open PySem PySem.Spec PyProof.Rows L2 Day
abbrev DF := Int → Bool
abbrev Row2 := DF × DF
/-- the rows tell the chart g -/
structure Tells (R : List Row2) (g : Int → DF) : Prop where
  cov : ∀ d, ∃ r ∈ R, r.1 d = true
  is : ∀ r ∈ R, ∀ d, r.1 d = true → r.2 = g d
/-- .. in their least form -/
structure LeastR (R : List Row2) (g : Int → DF) : Prop where
  t : Tells R g
  ne : ∀ r ∈ R, ∃ d, r.1 d = true
  un : R.Pairwise fun r s => r.2 ≠ s.2
/-- what stands in a day's column depends on the kind of the day alone, of m kinds -/
structure Dep (κ : Int → Nat) (m : Nat) (g : Int → DF) : Prop where
  lt : ∀ d, κ d < m
  eq : ∀ d e, κ d = κ e → g d = g e
theorem nodup_lt : ∀ (m : Nat) (l : List Nat), l.Nodup → (∀ x ∈ l, x < m) → l.length ≤ m
  | 0, [], _, _ => Nat.le_refl _
  | 0, x :: l, _, h => by have := h x List.mem_cons_self; omega
  | m + 1, l, hd, h => by
    have h1 := nodup_lt m (l.erase m) (hd.erase m) fun x hx => by
      have hx' := List.mem_of_mem_erase hx
      have := h x hx'
      have : x ≠ m := fun e => by
        subst e
        exact (List.Nodup.mem_erase_iff hd).mp hx |>.1 rfl
      omega
    by_cases c : m ∈ l
    · rw [List.length_erase_of_mem c] at h1
      omega
    · rw [List.erase_of_not_mem c] at h1
      omega
theorem pick_days (κ : Int → Nat) (g : Int → DF) (he : ∀ d e, κ d = κ e → g d = g e) (m : Nat) (hlt : ∀ d, κ d < m) : ∀ R : List Row2, (∀ r ∈ R, ∃ d, g d = r.2) → R.Pairwise (fun r s => r.2 ≠ s.2) → ∃ l : List Nat, l.length = R.length ∧ l.Nodup ∧ (∀ x ∈ l, x < m) ∧ ∀ x ∈ l, ∃ r ∈ R, ∃ d, κ d = x ∧ g d = r.2
  | [], _, _ => ⟨[], rfl, List.nodup_nil, fun x hx => (by cases hx), fun x hx => (by cases hx)⟩
  | r :: R, h, hp => by
    obtain ⟨l, h1, h2, h3, h4⟩ := pick_days κ g he m hlt R (fun s hs => h s (List.mem_cons_of_mem _ hs)) (List.pairwise_cons.mp hp).2
    obtain ⟨d, hd⟩ := h r List.mem_cons_self
    refine ⟨κ d :: l, by rw [List.length_cons, List.length_cons, h1], List.nodup_cons.mpr ⟨fun hm => ?_, h2⟩, fun x hx => ?_, fun x hx => ?_⟩
    · obtain ⟨s, hs, e, he1, he2⟩ := h4 _ hm
      have := he e d he1
      rw [he2, hd] at this
      exact (List.pairwise_cons.mp hp).1 s hs this.symm
    · rcases List.mem_cons.mp hx with rfl | hx
      · exact hlt d
      · exact h3 x hx
    · rcases List.mem_cons.mp hx with rfl | hx
      · exact ⟨r, List.mem_cons_self, d, rfl, hd⟩
      · obtain ⟨s, hs, q⟩ := h4 x hx
        exact ⟨s, List.mem_cons_of_mem _ hs, q⟩
theorem LeastR.few {R : List Row2} {g : Int → DF} (h : LeastR R g) {κ : Int → Nat} {m : Nat} (k : Dep κ m g) : R.length ≤ m := by
  obtain ⟨l, h1, h2, h3, _⟩ := pick_days κ g k.eq m k.lt R (fun r hr => by obtain ⟨d, hd⟩ := h.ne r hr; exact ⟨d, (h.t.is r hr d hd).symm⟩) h.un
  rw [← h1]
  exact nodup_lt m l h2 h3
/-- kinds of two charts together -/
theorem Dep.two {κ κ' : Int → Nat} {m m' : Nat} {g g' : Int → DF} (k : Dep κ m g) (k' : Dep κ' m' g') : Dep (fun d => κ d * m' + κ' d) (m * m') g ∧ Dep (fun d => κ d * m' + κ' d) (m * m') g' := by
  have lt : ∀ d, κ d * m' + κ' d < m * m' := fun d => by
    have h1 := k.lt d
    have h2 := k'.lt d
    calc κ d * m' + κ' d < κ d * m' + m' := by omega
      _ = (κ d + 1) * m' := by rw [Nat.add_mul, Nat.one_mul]
      _ ≤ m * m' := Nat.mul_le_mul_right _ h1
  have inj : ∀ d e, κ d * m' + κ' d = κ e * m' + κ' e → κ d = κ e ∧ κ' d = κ' e := fun d e h => by
    have h2 := k'.lt d
    have h3 := k'.lt e
    have e1 : (κ d * m' + κ' d) / m' = κ d := by rw [Nat.add_comm, Nat.add_mul_div_right _ _ (by omega), Nat.div_eq_of_lt h2, Nat.zero_add]
    have e2 : (κ e * m' + κ' e) / m' = κ e := by rw [Nat.add_comm, Nat.add_mul_div_right _ _ (by omega), Nat.div_eq_of_lt h3, Nat.zero_add]
    have e3 : κ d = κ e := by rw [← e1, ← e2, h]
    exact ⟨e3, by rw [e3] at h; omega⟩
  exact ⟨⟨lt, fun d e h => k.eq d e (inj d e h).1⟩, ⟨lt, fun d e h => k'.eq d e (inj d e h).2⟩⟩
theorem Dep.bin {κ : Int → Nat} {m : Nat} {g g' : Int → DF} (k : Dep κ m g) (k' : Dep κ m g') (t : Bool → Bool → Bool) : Dep κ m (fun d a => t (g d a) (g' d a)) :=
  ⟨k.lt, fun d e h => by rw [k.eq d e h, k'.eq d e h]⟩
theorem Dep.not {κ : Int → Nat} {m : Nat} {g : Int → DF} (k : Dep κ m g) : Dep κ m (fun d a => !g d a) := ⟨k.lt, fun d e h => by rw [k.eq d e h]⟩
theorem Dep.kst (f : DF) : Dep (fun _ => 0) 1 (fun _ => f) := ⟨fun _ => Nat.one_pos, fun _ _ _ => rfl⟩
theorem Dep.of (f a : DF) : Dep (fun d => if f d = true then 1 else 0) 2 (fun d n => f d && a n) :=
  ⟨fun d => by show (if f d = true then 1 else 0) < 2; split <;> decide, fun d e h => by
    have : f d = f e := by
      have h : (if f d = true then 1 else 0) = (if f e = true then 1 else 0) := h
      cases hd : f d <;> cases he : f e <;> rw [hd, he] at h <;> first | rfl | cases h
    show (fun n => f d && a n) = fun n => f e && a n
    rw [this]⟩
/-- the text of a set of days -/
def TxtOf (f : DF) (z : Str) : Prop := ∃ F, Least F ∧ F.mem = f ∧ z = strF F
theorem TxtOf.uniq {f : DF} {z z' : Str} (h : TxtOf f z) (h' : TxtOf f z') : z = z' := by
  obtain ⟨F, L, e, rfl⟩ := h
  obtain ⟨G, L', e', rfl⟩ := h'
  rw [L.unique L' fun n => by rw [e, e']]
theorem TxtOf.inj {f f' : DF} {z : Str} (h : TxtOf f z) (h' : TxtOf f' z) : f = f' := by
  obtain ⟨F, L, e, rfl⟩ := h
  obtain ⟨G, L', e', h2⟩ := h'
  rw [← e, ← e', strF_inj h2]
/-- crossed rows -/
def crossR (R S : List Row2) (t : Bool → Bool → Bool) : List Row2 := R.flatMap fun r => S.map fun s => ((fun n => r.1 n && s.1 n), fun a => t (r.2 a) (s.2 a))
theorem Tells.cross {R S : List Row2} {g g' : Int → DF} (h : Tells R g) (h' : Tells S g') (t : Bool → Bool → Bool) : Tells (crossR R S t) (fun d a => t (g d a) (g' d a)) := by
  refine ⟨fun d => ?_, fun x hx d hd => ?_⟩
  · obtain ⟨r, hr, e⟩ := h.cov d
    obtain ⟨s, hs, e'⟩ := h'.cov d
    refine ⟨_, List.mem_flatMap.mpr ⟨r, hr, List.mem_map.mpr ⟨s, hs, rfl⟩⟩, ?_⟩
    show (r.1 d && s.1 d) = true
    rw [e, e']
    rfl
  · obtain ⟨r, hr, hx⟩ := List.mem_flatMap.mp hx
    obtain ⟨s, hs, rfl⟩ := List.mem_map.mp hx
    have hd : (r.1 d && s.1 d) = true := hd
    rw [Bool.and_eq_true] at hd
    show (fun a => t (r.2 a) (s.2 a)) = fun a => t (g d a) (g' d a)
    rw [h.is r hr d hd.1, h'.is s hs d hd.2]
theorem Tells.inv {R : List Row2} {g : Int → DF} (h : Tells R g) : Tells (R.map fun r => (r.1, fun a => !r.2 a)) (fun d a => !g d a) := by
  refine ⟨fun d => ?_, fun x hx d hd => ?_⟩
  · obtain ⟨r, hr, e⟩ := h.cov d
    exact ⟨_, List.mem_map.mpr ⟨r, hr, rfl⟩, e⟩
  · obtain ⟨r, hr, rfl⟩ := List.mem_map.mp hx
    show (fun a => !r.2 a) = _
    rw [h.is r hr d hd]
theorem Tells.one (f : DF) : Tells [((fun _ => true), f)] (fun _ => f) :=
  ⟨fun d => ⟨_, List.mem_cons_self, rfl⟩, fun r hr d _ => by rcases List.mem_cons.mp hr with rfl | h; rfl; cases h⟩
theorem Tells.of (f a : DF) : Tells [(f, a), ((fun n => !f n), fun _ => false)] (fun d n => f d && a n) := by
  refine ⟨fun d => ?_, fun r hr d hd => ?_⟩
  · cases h : f d with
    | true => exact ⟨_, List.mem_cons_self, h⟩
    | false => exact ⟨_, List.mem_cons_of_mem _ List.mem_cons_self, by show (!f d) = true; rw [h]; rfl⟩
  · rcases List.mem_cons.mp hr with rfl | hr
    · have hd : f d = true := hd
      show a = fun n => f d && a n
      rw [hd]
      rfl
    · rcases List.mem_cons.mp hr with rfl | hr
      · have hd : (!f d) = true := hd
        show (fun _ => false) = fun n => f d && a n
        cases h : f d with
        | true => rw [h] at hd; cases hd
        | false => rfl
      · cases hr
end Od
end
section
set_option Elab.async false
set_option linter.all false
set_option maxRecDepth 100000
set_option maxHeartbeats 2000000
set_option autoImplicit false
/-! a list compared with an empty one, whatever its items; with one of another length -/
namespace Od
open PySem PySem.Spec PyProof.Rows L2 PySem.SeqAt
section
variable {X : Cx}
def rEqE (K : PySem.W.Frag) (neg : Bool) : R2 := fun x y H Q => ∃ (a b : Addr) (xs ys : List V), x = .ref a ∧ y = .ref b ∧ SqL K H a xs ∧ SqL K H b ys ∧ (xs = [] ∨ ys = []) ∧ Q (.bl (if neg then !decide (xs.length = ys.length) else decide (xs.length = ys.length))) H
theorem isList_of {pins : List (Addr × Obj)} {σ : L2.St} {H : Hp} {s : Shared} {a : Addr} {xs : List V} (I : Inv X pins σ H s) (h : SqL X.K H a xs) : ∃ its : List Value, s.heap.IsList a its.toArray ∧ its.length = xs.length := by
  obtain ⟨its, rv, ⟨o, n, ho, hc, hdn, hd⟩, _⟩ := I.list h
  exact ⟨its, ⟨o, ho, hc, n, hd⟩, rv.length.symm⟩
theorem op_eqE (hu : X.A.units + 64 < cLine) : OpR X (compareOp .Eq) (rEqE X.K false) := by
  intro pins s σ H x y v u Q I rx ry h
  obtain ⟨a, b, xs, ys, rfl, rfl, ha, hb, hxy, q⟩ := h
  obtain rfl : v = Value.ref a := rx
  obtain rfl : u = Value.ref b := ry
  obtain ⟨is, la, ea⟩ := isList_of I ha
  obtain ⟨js, lb, eb⟩ := isList_of I hb
  by_cases c : xs.length = ys.length
  · have hx : xs.length = 0 := by rcases hxy with e | e <;> simp [e] at c ⊢ <;> simp [c]
    have hn : is.toArray.size = 0 := by rw [List.size_toArray, ea, hx]
    refine RcAt.lists (e := fun _ => true) la lb (by rw [List.size_toArray, List.size_toArray]; omega) (by omega) (fun j h1 _ => absurd h1 (by omega)) X.prog X.w _ _ ?_
    refine ⟨.bl _, H, I, ?_, q⟩
    rw [decide_eq_true c, hn]
    rfl
  · refine RcAt.lists_lengths la lb (by rw [List.size_toArray, List.size_toArray, ea, eb]; simpa using c) (by omega) X.prog X.w _ _ ?_
    refine ⟨.bl _, H, I, ?_, q⟩
    rw [decide_eq_false c]
    rfl
theorem op_neE (hu : X.A.units + 64 < cLine) : OpR X (compareOp .NotEq) (rEqE X.K true) := by
  intro pins s σ H x y v u Q I rx ry h
  obtain ⟨a, b, xs, ys, rfl, rfl, ha, hb, hxy, q⟩ := h
  obtain rfl : v = Value.ref a := rx
  obtain rfl : u = Value.ref b := ry
  obtain ⟨is, la, ea⟩ := isList_of I ha
  obtain ⟨js, lb, eb⟩ := isList_of I hb
  by_cases c : xs.length = ys.length
  · have hx : xs.length = 0 := by rcases hxy with e | e <;> simp [e] at c ⊢ <;> simp [c]
    have hn : is.toArray.size = 0 := by rw [List.size_toArray, ea, hx]
    refine RcNeAt.lists (e := fun _ => true) la lb (by rw [List.size_toArray, List.size_toArray]; omega) (by omega) (fun j h1 _ => absurd h1 (by omega)) X.prog X.w _ _ ?_
    refine ⟨.bl _, H, I, ?_, q⟩
    rw [decide_eq_true c, hn]
    rfl
  · refine RcNeAt.lists_lengths la lb (by rw [List.size_toArray, List.size_toArray, ea, eb]; simpa using c) (by omega) X.prog X.w _ _ ?_
    refine ⟨.bl _, H, I, ?_, q⟩
    rw [decide_eq_false c]
    rfl
/-- a dict compared with the empty one -/
def rNeDE : R2 := fun x y H Q => ∃ (a b : Addr) (ks : List (Key × V)), x = .ref a ∧ y = .ref b ∧ H a = some (.dK ks) ∧ H b = some (.dK []) ∧ Q (.bl (!decide (ks.length = 0))) H
theorem op_neDE (hu : X.A.units < cLine) : OpR X (compareOp .NotEq) rNeDE := by
  intro pins s σ H x y v u Q I rx ry h
  obtain ⟨a, b, ks, rfl, rfl, ea, eb, q⟩ := h
  obtain rfl : v = Value.ref a := rx
  obtain rfl : u = Value.ref b := ry
  obtain ⟨_, ya, va, ra, da⟩ := (show ObjOk X.prog X.w H s.heap a (.dK ks) from I.hok a _ ea)
  obtain ⟨_, yb, vb, rb, db⟩ := (show ObjOk X.prog X.w H s.heap b (.dK []) from I.hok b _ eb)
  have hl : va.length = ks.length := ra.length.symm
  have hb : vb.length = 0 := rb.length.symm
  refine PySem.W.keq_ne (knd := mixKind X.prog X.w) (r := true) ya yb da db hu (fun e => hits_all rb ra fun p hp => ?_) ?_
  · have : ks.length = 0 := by omega
    rw [List.eq_nil_of_length_eq_zero this] at hp
    cases hp
  · refine ⟨.bl _, H, I, ?_, q⟩
    show Value.bool _ = _
    rw [hl, hb, Bool.and_true]
    rfl
/-- a if t else b as a test -/
def tIfT (t a b : TT) : TT := fun σ H Q => t σ H fun c H1 => if c = true then a σ H1 Q else b σ H1 Q
theorem pt_ifE {c a b : Expr} {pos : Pos} {t ta tb : TT} (hc : PT X c t) (ha : PT X a ta) (hb : PT X b tb) : PT X (.IfExp c a b pos) (tIfT t ta tb) := by
  refine ⟨fun pins s σ H Q I h => ?_⟩
  have e : isTrue (.IfExp c a b pos) X.env (eval (.IfExp c a b pos) X.env) = (do if ← isTrue c X.env (eval c X.env) then isTrue a X.env (eval a X.env) else isTrue b X.env (eval b X.env)) := by
    first | rfl | simp [isTrue]
  rw [e]
  refine wpAny_bind (thn (hc.run pins s σ H _ I h) fun d s1 ⟨H1, I1, q1⟩ => ?_)
  cases d with
  | true => exact ha.run pins s1 σ H1 Q I1 q1
  | false => exact hb.run pins s1 σ H1 Q I1 q1
end
end Od
end
section
set_option Elab.async false
set_option linter.all false
set_option maxRecDepth 100000
set_option maxHeartbeats 2000000
set_option autoImplicit false
/-! charts: rows merged -/
namespace Od
open PySem PySem.Spec PyProof.Rows L2 C8 Day
abbrev s_merged : Stmt := top 27
abbrev N_merged : List Str := ["rows", "known", "days", "ages", "text", "key"]
abbrev P_merged : List Str := ["rows"]
theorem sc_merged : FnScope N_merged P_merged (C8.fnScope s_merged) := fnScope_by (by decide +kernel)
structure DCC (K : PySem.W.Frag) (mg : Str → Option Value) (X : Addr) : Prop where
  cl : Cls K X
  c : mg "Chart" = some (.ref X)
  g : ∃ u, mg "Chart" = some u ∧ L2.RelV (.ref X) u
  n_pairs : NoAttr K X "pairs"
  sf : PySem.W.selfFirst K X = true
  ne : PySem.W.findIn K (.ref X) "__ne__" = some (some (.builtin "object.__ne__"))
  ob : PySem.W.mroIn K X (.type "object") = some true
  ha : PySem.W.findIn K (.ref X) "__class__" = some (some (.builtin "object.__class__"))
  hn : PySem.W.specialIn K (.builtin "object.__class__") "__get__" = some (some (.builtin "getset_descriptor.__get__"))
  htk : PySem.W.takesIn K (.builtin "object.__class__") = some true
  isi : PySem.W.kitOne K (.ref X) (.ref X) = some true
theorem le_unlockC {H H' : Hp} {d : Addr} {u : HO} {od : Obj} (h : H d = some u) (l : Le (upd H d (.frz od u)) H') : Le H (upd H' d u) := fun a o e => by
  by_cases c : a = d
  · subst c
    rw [h] at e
    rw [upd_self]
    exact e
  · rw [upd_ne c]
    exact l a o (by rw [upd_ne c]; exact e)
theorem gives_keysC {kvs : List (Key × V)} : Gives (fun i H x H' => H' = H ∧ ∃ k v, kvs[i]? = some (k, v) ∧ x = kV k) (kvs.map fun e => kV e.1) := fun i H x H' h => ⟨h.1, by
  obtain ⟨_, k, v, hk, rfl⟩ := h
  rw [List.getElem?_map, hk]
  rfl⟩
abbrev OkC (f : DF) : Prop := Ok f 12 200
/-- a row's tuple -/
def RowAt (C : Addr) (H : Hp) (v : V) (r : Row2) : Prop := ∃ t a b : Addr, v = .ref t ∧ H t = some (.tup [.ref a, .ref b]) ∧ IsDay C H a r.1 ∧ IsDay C H b r.2 ∧ OkC r.1 ∧ OkC r.2
theorem RowAt.le {C : Addr} {H H' : Hp} {v : V} {r : Row2} (h : RowAt C H v r) (l : Le H H') : RowAt C H' v r := by
  obtain ⟨t, a, b, e, h1, h2, h3, h4⟩ := h
  exact ⟨t, a, b, e, l _ _ h1, h2.le l, h3.le l, h4⟩
inductive RowsAt (C : Addr) (H : Hp) : List V → List Row2 → Prop
  | nil : RowsAt C H [] []
  | cons {v : V} {vs : List V} {r : Row2} {R : List Row2} : RowAt C H v r → RowsAt C H vs R → RowsAt C H (v :: vs) (r :: R)
theorem RowsAt.le {C : Addr} {H H' : Hp} {vs : List V} {R : List Row2} (h : RowsAt C H vs R) (l : Le H H') : RowsAt C H' vs R := by
  induction h with
  | nil => exact .nil
  | cons h _ ih => exact .cons (h.le l) ih
theorem RowsAt.len {C : Addr} {H : Hp} {vs : List V} {R : List Row2} (h : RowsAt C H vs R) : vs.length = R.length := by
  induction h with
  | nil => rfl
  | cons _ _ ih => rw [List.length_cons, List.length_cons, ih]
theorem RowsAt.get {C : Addr} {H : Hp} {vs : List V} {R : List Row2} (h : RowsAt C H vs R) : ∀ {i : Nat} {v : V}, vs[i]? = some v → ∃ r, R[i]? = some r ∧ RowAt C H v r := by
  induction h with
  | nil => intro i v e; simp at e
  | cons h _ ih =>
    intro i v e
    cases i with
    | zero => exact ⟨_, rfl, by cases e; exact h⟩
    | succ i => exact ih e
theorem RowsAt.mem {C : Addr} {H : Hp} {vs : List V} {R : List Row2} (h : RowsAt C H vs R) {v : V} (hv : v ∈ vs) : ∃ r ∈ R, RowAt C H v r := by
  obtain ⟨i, hi, e⟩ := List.mem_iff_getElem.mp hv
  obtain ⟨r, hr, h2⟩ := h.get (List.getElem?_eq_some_iff.mpr ⟨hi, e⟩)
  exact ⟨r, List.mem_of_getElem? hr, h2⟩
/-- what is known of the rows R looked at so far: by the text of its ages each row's days, put together -/
structure Known (C : Addr) (H : Hp) (T : Str → Option V) (R : List Row2) : Prop where
  is : ∀ z v, T z = some v → ∃ r : Row2, RowAt C H v r ∧ TxtOf r.2 z ∧ (∃ d, r.1 d = true) ∧ ∀ d, r.1 d = true ↔ ∃ s ∈ R, s.2 = r.2 ∧ s.1 d = true
  cov : ∀ s ∈ R, (∃ d, s.1 d = true) → ∃ z, TxtOf s.2 z ∧ (T z).isSome = true
theorem Known.le {C : Addr} {H H' : Hp} {T : Str → Option V} {R : List Row2} (k : Known C H T R) (l : Le H H') : Known C H' T R :=
  ⟨fun z v h => by obtain ⟨r, h1, h2⟩ := k.is z v h; exact ⟨r, h1.le l, h2⟩, k.cov⟩
theorem RowAt.lx {C d : Addr} {H H' : Hp} {kvs : List (Key × V)} {v : V} {r : Row2} (h : RowAt C H v r) (l : LeX d H H') (hd : H d = some (.dK kvs)) : RowAt C H' v r := by
  obtain ⟨t, a, b, e, h1, ⟨F, dx, L, z, m, h2⟩, ⟨G, dy, L', z', m', h3⟩, h4⟩ := h
  refine ⟨t, a, b, e, l _ _ (fun c => ?_) h1, ⟨F, dx, L, z, m, l _ _ (fun c => ?_) h2⟩, ⟨G, dy, L', z', m', l _ _ (fun c => ?_) h3⟩, h4⟩
  · rw [c, hd] at h1; cases h1
  · rw [c, hd] at h2; cases h2
  · rw [c, hd] at h3; cases h3
theorem Known.lx {C d : Addr} {H H' : Hp} {kvs : List (Key × V)} {T : Str → Option V} {R : List Row2} (k : Known C H T R) (l : LeX d H H') (hd : H d = some (.dK kvs)) : Known C H' T R :=
  ⟨fun z v h => by obtain ⟨r, h1, h2⟩ := k.is z v h; exact ⟨r, h1.lx l hd, h2⟩, k.cov⟩
theorem Known.upd {C d : Addr} {H : Hp} {kvs : List (Key × V)} {o : HO} {T : Str → Option V} {R : List Row2} (k : Known C H T R) (hd : H d = some (.dK kvs)) : Known C (upd H d o) T R := k.lx (Le.refl.x.upd) hd
/-- an empty row -/
theorem Known.skip {C : Addr} {H : Hp} {T : Str → Option V} {R : List Row2} (k : Known C H T R) {s : Row2} (hs : ¬ ∃ d, s.1 d = true) : Known C H T (R ++ [s]) := by
  refine ⟨fun z v h => ?_, fun x hx hd => ?_⟩
  · obtain ⟨r, h1, h2, h3, h4⟩ := k.is z v h
    refine ⟨r, h1, h2, h3, fun d => (h4 d).trans ⟨fun ⟨x, hx, q⟩ => ⟨x, List.mem_append_left _ hx, q⟩, fun ⟨x, hx, q⟩ => ?_⟩⟩
    rcases List.mem_append.mp hx with hx | hx
    · exact ⟨x, hx, q⟩
    · rw [List.mem_singleton.mp hx] at q
      exact absurd ⟨d, q.2⟩ hs
  · rcases List.mem_append.mp hx with hx | hx
    · exact k.cov x hx hd
    · rw [List.mem_singleton.mp hx] at hd
      exact absurd hd hs
/-- a row with ages that are known -/
theorem Known.join {C : Addr} {H : Hp} {T : Str → Option V} {R : List Row2} (k : Known C H T R) {s r : Row2} {z : Str} {u v : V} (hz : TxtOf s.2 z) (hT : T z = some u) (hu : RowAt C H u r) (hr : ∀ d, r.1 d = true ↔ ∃ x ∈ R, x.2 = s.2 ∧ x.1 d = true) (hv : RowAt C H v ((fun n => r.1 n || s.1 n), s.2)) (hs : ∃ d, s.1 d = true) :
    Known C H (fun j => if j = z then some v else T j) (R ++ [s]) := by
  refine ⟨fun j w h => ?_, fun x hx hd => ?_⟩
  · by_cases c : j = z
    · have h : (if j = z then some v else T j) = some w := h
      rw [if_pos c] at h
      cases h
      obtain ⟨d0, hd0⟩ := hs
      refine ⟨_, hv, c ▸ hz, ⟨d0, by show (r.1 d0 || s.1 d0) = true; rw [hd0, Bool.or_true]⟩, fun d => ?_⟩
      show (r.1 d || s.1 d) = true ↔ ∃ x ∈ R ++ [s], x.2 = s.2 ∧ x.1 d = true
      rw [Bool.or_eq_true, hr]
      constructor
      · rintro (⟨x, hx, q⟩ | h)
        · exact ⟨x, List.mem_append_left _ hx, q⟩
        · exact ⟨s, List.mem_append_right _ List.mem_cons_self, rfl, h⟩
      · rintro ⟨x, hx, q⟩
        rcases List.mem_append.mp hx with hx | hx
        · exact .inl ⟨x, hx, q⟩
        · rw [List.mem_singleton.mp hx] at q
          exact .inr q.2
    · have h : (if j = z then some v else T j) = some w := h
      rw [if_neg c] at h
      obtain ⟨q, h1, h2, h3, h4⟩ := k.is j w h
      refine ⟨q, h1, h2, h3, fun d => (h4 d).trans ⟨fun ⟨x, hx, q⟩ => ⟨x, List.mem_append_left _ hx, q⟩, fun ⟨x, hx, q2⟩ => ?_⟩⟩
      rcases List.mem_append.mp hx with hx | hx
      · exact ⟨x, hx, q2⟩
      · rw [List.mem_singleton.mp hx] at q2
        rw [q2.1] at hz
        exact absurd (h2.uniq hz) c
  · have key : ∀ j, (T j).isSome = true → (if j = z then some v else T j).isSome = true := fun j h => by
      split
      · rfl
      · exact h
    rcases List.mem_append.mp hx with hx | hx
    · obtain ⟨j, h1, h2⟩ := k.cov x hx hd
      exact ⟨j, h1, key j h2⟩
    · rw [List.mem_singleton.mp hx]
      exact ⟨z, hz, by show (if z = z then some v else T z).isSome = true; rw [if_pos rfl]; rfl⟩
/-- a row with new ages -/
theorem Known.new {C : Addr} {H : Hp} {T : Str → Option V} {R : List Row2} (k : Known C H T R) {s : Row2} {z : Str} {v : V} (hz : TxtOf s.2 z) (hT : T z = none) (hv : RowAt C H v s) (hs : ∃ d, s.1 d = true) :
    Known C H (fun j => if j = z then some v else T j) (R ++ [s]) := by
  have no : ∀ x ∈ R, x.2 = s.2 → ∀ d, x.1 d = true → False := fun x hx e d hd => by
    obtain ⟨j, h1, h2⟩ := k.cov x hx ⟨d, hd⟩
    rw [e] at h1
    rw [h1.uniq hz, hT] at h2
    cases h2
  refine ⟨fun j w h => ?_, fun x hx hd => ?_⟩
  · by_cases c : j = z
    · have h : (if j = z then some v else T j) = some w := h
      rw [if_pos c] at h
      cases h
      refine ⟨_, hv, c ▸ hz, hs, fun d => ⟨fun h => ⟨s, List.mem_append_right _ List.mem_cons_self, rfl, h⟩, ?_⟩⟩
      rintro ⟨x, hx, q⟩
      rcases List.mem_append.mp hx with hx | hx
      · exact (no x hx q.1 d q.2).elim
      · rw [List.mem_singleton.mp hx] at q
        exact q.2
    · have h : (if j = z then some v else T j) = some w := h
      rw [if_neg c] at h
      obtain ⟨q, h1, h2, h3, h4⟩ := k.is j w h
      refine ⟨q, h1, h2, h3, fun d => (h4 d).trans ⟨fun ⟨x, hx, q⟩ => ⟨x, List.mem_append_left _ hx, q⟩, fun ⟨x, hx, q2⟩ => ?_⟩⟩
      rcases List.mem_append.mp hx with hx | hx
      · exact ⟨x, hx, q2⟩
      · rw [List.mem_singleton.mp hx] at q2
        rw [q2.1] at hz
        exact absurd (h2.uniq hz) c
  · have key : ∀ j, (T j).isSome = true → (if j = z then some v else T j).isSome = true := fun j h => by
      split
      · rfl
      · exact h
    rcases List.mem_append.mp hx with hx | hx
    · obtain ⟨j, h1, h2⟩ := k.cov x hx hd
      exact ⟨j, h1, key j h2⟩
    · rw [List.mem_singleton.mp hx]
      exact ⟨z, hz, by show (if z = z then some v else T z).isSome = true; rw [if_pos rfl]; rfl⟩
/-- the texts of the rows' ages -/
def TxtsOf (R : List Row2) (zs : List Str) : Prop := R.length = zs.length ∧ ∀ (i : Nat) (r : Row2) (z : Str), R[i]? = some r → zs[i]? = some z → TxtOf r.2 z
/-- the rows that are known, in the order of their texts -/
theorem Known.rows {C : Addr} {H : Hp} {T : Str → Option V} {R : List Row2} (k : Known C H T R) : ∀ zs : List Str, (∀ z ∈ zs, (T z).isSome = true) → ∃ (R' : List Row2), RowsAt C H (zs.filterMap T) R' ∧ TxtsOf R' zs ∧ (∀ r ∈ R', ∃ z ∈ zs, TxtOf r.2 z ∧ (∃ d, r.1 d = true) ∧ ∀ d, r.1 d = true ↔ ∃ s ∈ R, s.2 = r.2 ∧ s.1 d = true) ∧ ∀ z ∈ zs, ∃ r ∈ R', TxtOf r.2 z
  | [], _ => ⟨[], .nil, ⟨rfl, fun i r z h => by simp at h⟩, fun r hr => (by cases hr), fun z hz => (by cases hz)⟩
  | z :: zs, h => by
    obtain ⟨R', h1, h2, h3, h4⟩ := k.rows zs fun z' hz => h z' (List.mem_cons_of_mem _ hz)
    obtain ⟨v, hv⟩ := Option.isSome_iff_exists.mp (h z List.mem_cons_self)
    obtain ⟨r, q1, q2, q3, q4⟩ := k.is z v hv
    refine ⟨r :: R', by rw [List.filterMap_cons, hv]; exact .cons q1 h1, ⟨by rw [List.length_cons, List.length_cons, h2.1], fun i x y hx hy => ?_⟩, fun x hx => ?_, fun y hy => ?_⟩
    · cases i with
      | zero => cases hx; cases hy; exact q2
      | succ i => exact h2.2 i x y hx hy
    · rcases List.mem_cons.mp hx with rfl | hx
      · exact ⟨z, List.mem_cons_self, q2, q3, q4⟩
      · obtain ⟨y, hy, q⟩ := h3 x hx
        exact ⟨y, List.mem_cons_of_mem _ hy, q⟩
    · rcases List.mem_cons.mp hy with rfl | hy
      · exact ⟨r, List.mem_cons_self, q2⟩
      · obtain ⟨x, hx, q⟩ := h4 y hy
        exact ⟨x, List.mem_cons_of_mem _ hx, q⟩
/-- rows in least form, with the texts of their ages in ascending order -/
def SortedR (R : List Row2) : Prop := ∃ zs : List Str, TxtsOf R zs ∧ sortedS zs = true ∧ zs.Nodup
theorem TxtsOf.un {R : List Row2} {zs : List Str} (h : TxtsOf R zs) (nd : zs.Nodup) : R.Pairwise fun r s => r.2 ≠ s.2 := by
  rw [List.pairwise_iff_getElem]
  intro i j hi hj hij e
  have h1 := h.2 i R[i] (zs[i]'(by rw [← h.1]; exact hi)) (List.getElem?_eq_getElem hi) (List.getElem?_eq_getElem _)
  have h2 := h.2 j R[j] (zs[j]'(by rw [← h.1]; exact hj)) (List.getElem?_eq_getElem hj) (List.getElem?_eq_getElem _)
  rw [e] at h1
  have h3 := h1.uniq h2
  have := (List.getElem_inj nd).mp h3
  omega
def atS (T : Str → Option V) : V → Option V
  | .str z => T z
  | _ => none
theorem fm_atS (T : Str → Option V) : ∀ ys : List Str, (ys.map V.str).filterMap (atS T) = ys.filterMap T
  | [] => rfl
  | z :: ys => by
    rw [List.map_cons, List.filterMap_cons, List.filterMap_cons, fm_atS T ys]
    rfl
section
variable {P : Program} {w : World} {K : PySem.W.Frag} {mg : Str → Option Value} {base : Heap}
def sp_rows (C : Addr) : Sp := fun vs H Q _ => ∃ (p : Addr) (xs : List V) (R : List Row2) (g : Int → DF), vs = [.ref p] ∧ H p = some (.lst xs) ∧ RowsAt C H xs R ∧ Tells R g ∧ R.length ≤ 1000000 ∧
  ∀ q H' ys R', Le H H' → H q = none → H' q = some (.lst ys) → RowsAt C H' ys R' → LeastR R' g → SortedR R' → Q (.ref q) H'
theorem c_rows {C : Addr} (T : Txt K mg) (D : DSC K mg C) (F : DefOf K mg "merged" s_merged P_merged) (Q_DaySet___bool__ : Met P w K mg base 1 C "__bool__" (sp_bool C) []) (Q_DaySet___str__ : Met P w K mg base 1 C "__str__" (sp_str C) []) (Q_DaySet___or__ : Met P w K mg base 7 C "__or__" (sp_bin C fun a b => a || b) []) : Cal P w K mg base 8 "merged" (sp_rows C) [] := by
  obtain ⟨f, fd, F, B⟩ := F
  refine cal0 F B .nil sc_merged (fun vs H Q E h => by obtain ⟨_, _, _, _, rfl, _⟩ := h; rfl) (fun cdv A outer s H vs Q E hr h => ?_)
  obtain ⟨p, xs, R, g, rfl, hp, hR, tl, hl, qq⟩ := h
  have nd := sc_merged.nd
  refine ⟨_, (pss_cons (ps_set (i := 1) nd rfl (Or.inr rfl) pe_dnewK)
      (C8.pss_cut (ps_for PassesOwn.never rfl (pi_list (pv 0)) (pg_tup rfl (pgs_cons (pg_name (i := 2) nd rfl (Or.inl rfl)) (pgs_cons (pg_name (i := 3) nd rfl (Or.inl rfl)) pgs_nil))) (C8.pss_cut (ps_if (pt_not (pt_own Q_DaySet___bool__ hr (by decide) (pv 2))) (pss_one ps_continue) pss_nil)
      (pss_cons (ps_set (i := 4) nd rfl (Or.inl rfl) (pe_callTy (call_str_ownM Q_DaySet___str__ hr (by decide)) (by rfl) T.b_str (by decide +kernel) (pa_cons (pv 3) pa_nil)))
      (pss_one (ps_if (pt_cmp (pc_din (Room.u1 hr) (pv 4) (pv 1))) (pss_one (ps_dput (Room.u1 hr) (pv 1) (pv 4) (pe_tup (pa_cons (pe_op (op_ownM D.sf Q_DaySet___or__ hr (by decide)) (pe_ix ix_tup (pe_dget (Room.u1 hr) (pv 1) (pv 4) (fun _ _ => rfl)) pe_int (fun _ _ => rfl)) (pv 2)) (pa_cons (pv 3) pa_nil))) rfl)) (pss_one (ps_dput (Room.u1 hr) (pv 1) (pv 4) (pe_tup (pa_cons (pv 2) (pa_cons (pv 3) pa_nil))) rfl)))))))
      (pss_one (ps_ret (pe_lc (own := [("text", 4)]) (g := gName 4) (by rfl) nd (pi_list (pe_callB cr_sortedSA (by rfl) T.b_sorted (by decide +kernel) (pa_cons (pe_lock (pe_lc (own := [("key", 5)]) (g := gName 5) (by rfl) nd (pi_keys (pv 1)) (blkOk_by (own := [("key", 5)]) (N := N_merged) (sc := C8.fnScope s_merged) (by decide +kernel)) (fun _ _ _ _ _ => pg_name (i := 5) nd rfl (Or.inl rfl)) (fun _ _ _ _ _ => pts_nil) (fun _ _ _ _ _ => (pe_callTy SkE.call_str_str (by rfl) T.b_str (by decide +kernel) (pa_cons (pv 5) pa_nil))))) pa_nil))) (blkOk_by (own := [("text", 4)]) (N := N_merged) (sc := C8.fnScope s_merged) (by decide +kernel)) (fun _ _ _ _ _ => pg_name (i := 4) nd rfl (Or.inl rfl)) (fun _ _ _ _ _ => pts_nil) (fun _ _ _ _ _ => (pe_dget (Room.u1 hr) (pv 1) (pv 4) (fun _ _ => rfl)))))))), ?_⟩
  intro d hd
  have hpd : p ≠ d := fun e => by rw [e, hd] at hp; cases hp
  refine ⟨fun σ' H' => Le H H' ∧ ∃ kvs T x2 x3 x4, σ' = [some (.ref p), some (.ref d), x2, x3, x4, none] ∧ H' d = some (.dK kvs) ∧ TabS kvs T ∧ kvs.length ≤ R.length ∧ Known C H' T R, ?_, ?_⟩
  · refine ⟨_, rfl, _, rfl, ⟨_, .of (by rw [upd_ne hpd]; exact hp)⟩, ?_⟩
    refine for_list (xs := xs) (fun i σ' H' => Le H H' ∧ ∃ kvs T x2 x3 x4, σ' = [some (.ref p), some (.ref d), x2, x3, x4, none] ∧ H' d = some (.dK kvs) ∧ TabS kvs T ∧ kvs.length ≤ i ∧ Known C H' T (R.take i)) ?_ ?_ ?_ ?_
    · exact ⟨Le.new hd, [], fun _ => none, _, _, _, rfl, upd_self, .nil, Nat.le_refl _, ⟨fun z v h => (by cases h), fun s hs => (by simp at hs)⟩⟩
    · rintro i σ' H' _ ⟨le, _⟩
      exact .of (le p _ hp)
    · rintro i x σ' H' hx ⟨le, kvs, T1, x2, x3, x4, rfl, e, tb, hk, kn⟩
      obtain ⟨r, hr1, t, a, b, rfl, ht, da, db, oa, ob⟩ := hR.get hx
      have hil : i < R.length := (List.getElem?_eq_some_iff.mp hr1).1
      have tk : R.take (i + 1) = R.take i ++ [r] := by
        rw [List.take_add_one, hr1]
        rfl
      have ht' := le _ _ ht
      have da' := da.le le
      have db' := db.le le
      obtain ⟨_, dxa, _, _, _, ha1⟩ := id da'
      obtain ⟨_, dxb, _, _, _, hb1⟩ := id db'
      refine ⟨t, _, rfl, .of ht', rfl, _, _, rfl, _, _, rfl, rfl, ?_⟩
      refine ⟨fun σ2 H2 => H2 = H' ∧ σ2 = [some (.ref p), some (.ref d), some (.ref a), some (.ref b), x4, none] ∧ ∃ d, r.1 d = true, ?_, ?_⟩
      · refine ⟨_, rfl, _, _, _, rfl, ha1, a, r.1, rfl, da', fun bb hbb => ⟨_, rfl, ?_⟩⟩
        refine ite2 (fun c => ?_) (fun c => ?_)
        · have hn : ¬ ∃ d, r.1 d = true := fun h => by
            have : bb = true := hbb.mpr h
            rw [this] at c
            cases c
          refine ⟨le, kvs, T1, _, _, _, rfl, e, tb, by omega, ?_⟩
          rw [tk]
          exact kn.skip hn
        · exact ⟨rfl, rfl, hbb.mp (by cases bb with | true => rfl | false => exact absurd rfl c)⟩
      rintro σ2 H2 ⟨rfl, rfl, hs⟩
      refine ⟨_, rfl, b, dxb, _, rfl, hb1, b, r.2, 12, 200, rfl, db', ob, fun F2 L2 hm2 => ⟨_, rfl, ?_⟩⟩
      have hz : TxtOf r.2 (strF F2) := ⟨F2, L2, funext hm2, rfl⟩
      generalize strF F2 = z at hz ⊢
      refine ⟨_, rfl, _, rfl, d, _, rfl, .k (k := .inr z) e, _, rfl, ?_⟩
      rw [tb.val]
      have hdg := DGet.k (k := .inr z) e
      rw [tb.val] at hdg
      have hle := len_put kvs (.inr z)
      cases hT : T1 z with
      | some u =>
        rw [hT] at hdg
        refine ite2 (fun _ => ?_) (fun c => absurd rfl c)
        obtain ⟨q, hu, q2, q3, q4⟩ := kn.is z u hT
        have eq2 : q.2 = r.2 := q2.inj hz
        obtain ⟨tq, aq, bq, rfl, htq, daq, dbq, oaq, obq⟩ := id hu
        obtain ⟨_, dxq, _, _, _, haq1⟩ := id daq
        refine ⟨_, rfl, _, rfl, d, _, rfl, hdg, _, _, _, .ref aq, rfl, rfl, .of htq, atI_nat (j := 0) rfl, _, rfl, _, _, _, _, _, _, rfl, rfl, haq1, ha1, aq, a, q.1, r.1, 12, 200, rfl, daq, da', oaq, oa, fun nw H3 l3 dn nn => ?_⟩
        refine ⟨_, rfl, le_szl 2 (by decide), fun t2 nt2 => ?_⟩
        have l4 := l3.trans (Le.new (o := .tup [.ref nw, .ref b]) nt2)
        have e4 := l4 _ _ e
        refine ⟨_, rfl, _, rfl, d, _, rfl, .k (k := .inr z) e4 (le_szl' (by omega)), ?_⟩
        have hv : RowAt C (upd H3 t2 (.tup [.ref nw, .ref b])) (.ref t2) ((fun n => q.1 n || r.1 n), r.2) := ⟨t2, nw, b, rfl, upd_self, dn.le (Le.new nt2), db'.le l4, oaq.bin oa fun x y => x || y, ob⟩
        refine ⟨(le.trans l4).upd hd, _, _, _, _, _, rfl, upd_self, tb.put z _, by have := hle (.ref t2); omega, ?_⟩
        rw [tk]
        exact ((kn.le l4).join hz hT (hu.le l4) (fun d => by rw [q4 d, eq2]) hv hs).upd e4
      | none =>
        refine ite2 (fun c => absurd c (by simp)) (fun _ => ?_)
        refine ⟨_, rfl, _, rfl, le_szl 2 (by decide), fun t2 nt2 => ?_⟩
        have l4 := Le.new (o := .tup [.ref a, .ref b]) nt2
        have e4 := l4 _ _ e
        refine ⟨_, rfl, _, rfl, d, _, rfl, .k (k := .inr z) e4 (le_szl' (by omega)), ?_⟩
        have hv : RowAt C (upd H2 t2 (.tup [.ref a, .ref b])) (.ref t2) r := ⟨t2, a, b, rfl, upd_self, da'.le l4, db'.le l4, oa, ob⟩
        refine ⟨(le.trans l4).upd hd, _, _, _, _, _, rfl, upd_self, tb.put z _, by have := hle (.ref t2); omega, ?_⟩
        rw [tk]
        exact ((kn.le l4).new hz hT hv hs).upd e4
    · rintro σ' H' ⟨le, kvs, T1, x2, x3, x4, rfl, e, tb, hk, kn⟩
      have hxl := hR.len
      rw [hxl] at hk kn
      rw [List.take_length] at kn
      exact ⟨le, kvs, T1, x2, x3, x4, rfl, e, tb, hk, kn⟩
  rintro σ' H1 ⟨l1, kvs, T1, x2, x3, x4, rfl, e, tb, hk, kn⟩
  refine ⟨d, _, e, trivial, fun od => ?_⟩
  refine ⟨_, rfl, d, od, rfl, .inl ⟨kvs, upd_self, fun D nD => ?_⟩⟩
  refine lc_fm (walk_keys (kvs := kvs)) gives_keysC nD (by rw [List.length_map]; omega) (fun _ le => le _ _ upd_self) (fun x => some x) ?_ ?_
  · intro x H3 hx le N hN
    obtain ⟨e, he, rfl⟩ := List.mem_map.mp hx
    obtain ⟨t, ht, _⟩ := tb.ent e he
    rw [ht] at hN ⊢
    exact ⟨rfl, _, rfl, t, rfl, hN _ .refl⟩
  intro H3 l3 e3
  refine ⟨l3 _ _ upd_self, ?_⟩
  have l4 : Le H1 (upd H3 d (.dK kvs)) := le_unlockC e l3
  have nDk : D ≠ d := fun c => by rw [c, upd_self] at nD; cases nD
  have eD : upd H3 d (.dK kvs) D = some (.lst ((keysS kvs).map V.str)) := by
    rw [upd_ne nDk, e3, List.filterMap_some]
    have e : (kvs.map fun e => kV e.1) = (kvs.map (·.1)).map kV := by rw [List.map_map]; rfl
    rw [e, tb.keys, List.map_map]
    rfl
  generalize upd H3 d (.dK kvs) = H4 at l4 eD ⊢
  refine ⟨D, keysS kvs, rfl, .of eD, fun ys L perm srt nL => ?_⟩
  refine ⟨L, rfl, ⟨_, .of upd_self⟩, fun D5 nD5 => ?_⟩
  have ynd : ys.Nodup := perm.nodup_iff.mpr tb.keys_nd
  have l5 : Le H1 (upd H4 L (.lst (ys.map V.str))) := l4.trans (Le.new nL)
  have eL : upd H4 L (.lst (ys.map V.str)) L = some (.lst (ys.map V.str)) := upd_self
  generalize upd H4 L (.lst (ys.map V.str)) = H5 at l5 eL nD5 ⊢
  have hlen : ys.length ≤ 1000000 := by
    have e1 := perm.length_eq
    have e2 : (keysS kvs).length = kvs.length := by
      have := congrArg List.length tb.keys
      rw [List.length_map, List.length_map] at this
      exact this.symm
    omega
  have hT : ∀ z, z ∈ ys ↔ (T1 z).isSome = true := fun z => perm.mem_iff.trans (tb.keys_mem z)
  refine lc_fm (walk_list (xs := ys.map V.str)) gives_at nD5 (by rw [List.length_map]; exact le_szl _ (by omega)) (fun _ le => .of (le _ _ eL)) (atS T1) ?_ ?_
  · intro x H6 hx le N hN
    obtain ⟨z, hz, rfl⟩ := List.mem_map.mp hx
    obtain ⟨v, hv⟩ := Option.isSome_iff_exists.mp ((hT z).mp hz)
    have hN := hN _ Le.refl
    have e6 := le _ _ (l5 _ _ e)
    have hdg := DGet.k (k := .inr z) e6
    rw [tb.val, hv] at hdg
    refine ⟨rfl, _, rfl, _, rfl, d, v, rfl, hdg, ?_⟩
    have e7 : atS T1 (.str z) = some v := hv
    rw [e7] at hN
    exact hN
  · intro H6 l6 e6
    rw [fm_atS] at e6
    have l06 := l5.trans l6
    obtain ⟨R', h1, h2, h3, h4⟩ := (kn.le l06).rows ys fun z hz => (hT z).mp hz
    refine qq D5 H6 _ R' (l1.trans l06) ((l1.trans l5).none nD5) e6 h1 ⟨⟨fun n => ?_, fun r hr n hn => ?_⟩, fun r hr => ?_, h2.un ynd⟩ ⟨ys, h2, srt, ynd⟩
    · obtain ⟨s, hs, hn⟩ := tl.cov n
      obtain ⟨z, hz, hTz⟩ := kn.cov s hs ⟨n, hn⟩
      obtain ⟨r, hr, hrz⟩ := h4 z ((hT z).mpr hTz)
      obtain ⟨_, _, _, _, hd⟩ := h3 r hr
      exact ⟨r, hr, (hd n).mpr ⟨s, hs, (hrz.inj hz).symm, hn⟩⟩
    · obtain ⟨_, _, _, _, hd⟩ := h3 r hr
      obtain ⟨s, hs, es, hn⟩ := (hd n).mp hn
      rw [← es]
      exact tl.is s hs n hn
    · obtain ⟨_, _, _, hx, _⟩ := h3 r hr
      exact hx
end
end Od
end
section
set_option Elab.async false
set_option linter.all false
set_option maxRecDepth 100000
set_option maxHeartbeats 2000000
set_option autoImplicit false
/-! comprehensions that make new things, told by lists beside them -/
namespace Od
open PySem PySem.Spec PyProof.Rows L2
inductive All2 {α : Type} (P : V → α → Prop) : List V → List α → Prop
  | nil : All2 P [] []
  | cons {v : V} {vs : List V} {s : α} {S : List α} : P v s → All2 P vs S → All2 P (v :: vs) (s :: S)
section
variable {α : Type} {P Q : V → α → Prop}
theorem All2.imp {vs : List V} {S : List α} (h : All2 P vs S) (i : ∀ v s, P v s → Q v s) : All2 Q vs S := by
  induction h with
  | nil => exact .nil
  | cons h _ ih => exact .cons (i _ _ h) ih
theorem All2.len {vs : List V} {S : List α} (h : All2 P vs S) : vs.length = S.length := by
  induction h with
  | nil => rfl
  | cons _ _ ih => rw [List.length_cons, List.length_cons, ih]
theorem All2.app {vs ws : List V} {S T : List α} (h : All2 P vs S) (h' : All2 P ws T) : All2 P (vs ++ ws) (S ++ T) := by
  induction h with
  | nil => exact h'
  | cons h _ ih => exact .cons h ih
theorem All2.get {vs : List V} {S : List α} (h : All2 P vs S) : ∀ {i : Nat} {v : V}, vs[i]? = some v → ∃ s, S[i]? = some s ∧ P v s := by
  induction h with
  | nil => intro i v e; simp at e
  | cons h _ ih =>
    intro i v e
    cases i with
    | zero => exact ⟨_, rfl, by cases e; exact h⟩
    | succ i => exact ih e
theorem All2.mem {vs : List V} {S : List α} (h : All2 P vs S) {v : V} (hv : v ∈ vs) : ∃ s ∈ S, P v s := by
  obtain ⟨i, hi, e⟩ := List.mem_iff_getElem.mp hv
  obtain ⟨s, hs, h2⟩ := h.get (List.getElem?_eq_some_iff.mpr ⟨hi, e⟩)
  exact ⟨s, List.mem_of_getElem? hs, h2⟩
end
theorem take_snoc {α : Type} {S : List α} {j : Nat} {s : α} (h : S[j]? = some s) : S.take (j + 1) = S.take j ++ [s] := by
  rw [List.take_add_one, h]
  rfl
section
variable {α β γ : Type} {J J1 : It} {n n1 : Nat} {G G1 : Hp → Prop} {Y Y1 : Nat → Hp → V → Hp → Prop} {xs ys : List V} {g g1 : TG} {wi1 : TI} {te : TE} {vs vs1 : List Nat} {σ : L2.St} {H1 : Hp} {D : Addr} {Qd : Hp → Prop}
/-- [e for x in xs] -/
theorem lc_eff (w : Walk J xs.length G Y) (hY : Gives Y xs) (hD : H1 D = none) (hG : ∀ H, Le H1 H → G H) (R : List α) (hR : R.length = xs.length) (hn : xs.length ≤ sizeLine) (comb : α → γ) (Rel : V → γ → Hp → Prop)
    (mono : ∀ v s H H', LeX D H H' → (∃ acc, H D = some (.lst acc)) → Rel v s H → Rel v s H')
    (hg : ∀ (i : Nat) (x : V) (r : α) (H : Hp), xs[i]? = some x → R[i]? = some r → Le H1 H → ∃ σx, wipe σx vs = wipe σ vs ∧ (∀ K2 : L2.St → Hp → Prop, K2 σx H → g x (wipe σ vs) H K2) ∧ ∀ N : VK, (∀ v H2, Le H H2 → Rel v (comb r) H2 → N v H2) → te σx H N)
    (hd : ∀ H us, Le H1 H → H D = some (.lst us) → All2 (fun v s => Rel v s H) us (R.map comb) → Qd H) :
    ∃ W : Nat → Nat → Hp → Prop, (∃ m, W 0 m (upd H1 D (.lst []))) ∧ ∀ i m H, W i m H →
      (J.stop i H ∧ Qd H) ∨ (J.go i H ∧ ∃ Nx : Hp → Prop, (∀ H', Nx H' → ∃ m', m' < m ∧ W (i + 1) m' H') ∧ ∀ x H', J.yld i H x H' → g x (wipe σ vs) H' fun σ2 H2 => wipe σ2 vs = wipe σ vs ∧ tYes σ2 H2 fun b H3 =>
        if b = true then te σ2 H3 fun y H4 => ∃ acc, H4 D = some (.lst acc) ∧ acc.length < sizeLine ∧ Nx (upd H4 D (.lst (acc ++ [y]))) else Nx H3) := by
  refine ⟨fun i m H => m = xs.length - i ∧ i ≤ xs.length ∧ Le H1 H ∧ ∃ us, H D = some (.lst us) ∧ All2 (fun v s => Rel v s H) us ((R.take i).map comb), ⟨_, rfl, Nat.zero_le _, Le.new hD, [], upd_self, .nil⟩, ?_⟩
  rintro i m H ⟨rfl, hiX, le, us, e, h2⟩
  by_cases hlt : i < xs.length
  · refine .inr ⟨w.goes i H hlt (hG H le), fun H' => Le H1 H' ∧ ∃ us, H' D = some (.lst us) ∧ All2 (fun v s => Rel v s H') us ((R.take (i + 1)).map comb), fun H' p => ⟨xs.length - (i + 1), by omega, rfl, hlt, p⟩, fun x H' y => ?_⟩
    obtain ⟨rfl, hx⟩ := hY i H x H' (w.yields i H x H' hlt (hG H le) y)
    have hr : R[i]? = some (R[i]'(by omega)) := List.getElem?_eq_getElem _
    obtain ⟨σx, w1, w2, w3⟩ := hg i x _ H' hx hr le
    refine w2 _ ⟨w1, ?_⟩
    show te σx H' _
    refine w3 _ fun v H2 l2 hv => ?_
    have e2 := l2 _ _ e
    have hul := h2.len
    rw [List.length_map, List.length_take] at hul
    refine ⟨us, e2, by omega, (le.trans l2).upd hD, us ++ [v], upd_self, ?_⟩
    have lx : LeX D H2 (upd H2 D (.lst (us ++ [v]))) := Le.refl.x.upd
    rw [take_snoc hr, List.map_append]
    exact (h2.imp fun v s q => mono v s _ _ lx ⟨_, e2⟩ (mono v s _ _ l2.x ⟨_, e⟩ q)).app (.cons (mono v _ _ _ lx ⟨_, e2⟩ hv) .nil)
  · have ei : i = xs.length := by omega
    subst ei
    rw [← hR, List.take_length] at h2
    exact .inl ⟨w.stops H (hG H le), hd H us le e h2⟩
/-- [e for x in xs for y in ys] -/
theorem lc2_eff (w : Walk J xs.length G Y) (hY : Gives Y xs) (w1 : Walk J1 ys.length G1 Y1) (hY1 : Gives Y1 ys) (hD : H1 D = none) (hG : ∀ H, Le H1 H → G H) (hG1 : ∀ H, Le H1 H → G1 H) (R : List α) (S : List β) (hR : R.length = xs.length) (hS : S.length = ys.length) (hn : xs.length * ys.length ≤ sizeLine) (comb : α → β → γ) (Rel : V → γ → Hp → Prop)
    (mono : ∀ v s H H', LeX D H H' → (∃ acc, H D = some (.lst acc)) → Rel v s H → Rel v s H')
    (hg : ∀ (i : Nat) (x : V) (r : α) (H : Hp), xs[i]? = some x → R[i]? = some r → Le H1 H → ∃ σx, wipe σx vs = wipe σ vs ∧ (∀ K2 : L2.St → Hp → Prop, K2 σx H → g x (wipe σ vs) H K2) ∧ (∀ Rr : It → Hp → Prop, Rr J1 H → wi1 σx H Rr) ∧
      ∀ (j : Nat) (y : V) (s : β) (H' : Hp), ys[j]? = some y → S[j]? = some s → Le H1 H' → ∃ σy, wipe σy vs1 = wipe σx vs1 ∧ (∀ K3 : L2.St → Hp → Prop, K3 σy H' → g1 y (wipe σx vs1) H' K3) ∧ ∀ N : VK, (∀ v H2, Le H' H2 → Rel v (comb r s) H2 → N v H2) → te σy H' N)
    (hd : ∀ H us, Le H1 H → H D = some (.lst us) → All2 (fun v s => Rel v s H) us (R.flatMap fun r => S.map (comb r)) → Qd H) :
    ∃ W : Nat → Nat → Hp → Prop, (∃ m, W 0 m (upd H1 D (.lst []))) ∧ ∀ i m H, W i m H →
  (J.stop i H ∧ Qd H) ∨ (J.go i H ∧ ∃ Nx : Hp → Prop, (∀ H', Nx H' → ∃ m', m' < m ∧ W (i + 1) m' H') ∧ ∀ x H', J.yld i H x H' → g x (wipe σ vs) H' fun σ2 H2 => wipe σ2 vs = wipe σ vs ∧ tYes σ2 H2 fun b H3 =>
    if b = true then wi1 σ2 H3 fun J1 H4 => ∃ W1 : Nat → Nat → Hp → Prop, (∃ m, W1 0 m H4) ∧ ∀ j k H, W1 j k H →
      (J1.stop j H ∧ Nx H) ∨ (J1.go j H ∧ ∃ Nx1 : Hp → Prop, (∀ H', Nx1 H' → ∃ k', k' < k ∧ W1 (j + 1) k' H') ∧ ∀ x H', J1.yld j H x H' → g1 x (wipe σ2 vs1) H' fun σ3 H5 => wipe σ3 vs1 = wipe σ2 vs1 ∧ tYes σ3 H5 fun b H6 =>
        if b = true then te σ3 H6 fun y H7 => ∃ acc, H7 D = some (.lst acc) ∧ acc.length < sizeLine ∧ Nx1 (upd H7 D (.lst (acc ++ [y]))) else Nx1 H6)
    else Nx H3) := by
  have lenT : ∀ i, ((R.take i).flatMap fun r => S.map (comb r)).length ≤ i * S.length := fun i => by
    have := flat_len (fun r => S.map (comb r)) S.length (fun x => by rw [List.length_map]; exact Nat.le_refl _) (R.take i)
    have h2 : (R.take i).length ≤ i := by rw [List.length_take]; omega
    exact Nat.le_trans this (Nat.mul_le_mul_right _ h2)
  refine ⟨fun i m H => m = xs.length - i ∧ i ≤ xs.length ∧ Le H1 H ∧ ∃ us, H D = some (.lst us) ∧ All2 (fun v s => Rel v s H) us ((R.take i).flatMap fun r => S.map (comb r)), ⟨_, rfl, Nat.zero_le _, Le.new hD, [], upd_self, .nil⟩, ?_⟩
  rintro i m H ⟨rfl, hiX, le, us, e, h2⟩
  by_cases hlt : i < xs.length
  · refine .inr ⟨w.goes i H hlt (hG H le), fun H' => Le H1 H' ∧ ∃ us, H' D = some (.lst us) ∧ All2 (fun v s => Rel v s H') us ((R.take (i + 1)).flatMap fun r => S.map (comb r)), fun H' p => ⟨xs.length - (i + 1), by omega, rfl, hlt, p⟩, fun x H' y => ?_⟩
    obtain ⟨rfl, hx⟩ := hY i H x H' (w.yields i H x H' hlt (hG H le) y)
    have hr : R[i]? = some (R[i]'(by omega)) := List.getElem?_eq_getElem _
    generalize R[i]'(by omega) = r at hr
    obtain ⟨σx, x1, x2, x3, x4⟩ := hg i x r H' hx hr le
    refine x2 _ ⟨x1, ?_⟩
    show wi1 σx H' _
    refine x3 _ ?_
    refine ⟨fun j k H => k = ys.length - j ∧ j ≤ ys.length ∧ Le H1 H ∧ ∃ us, H D = some (.lst us) ∧ All2 (fun v s => Rel v s H) us (((R.take i).flatMap fun r => S.map (comb r)) ++ (S.take j).map (comb r)), ⟨_, rfl, Nat.zero_le _, le, us, e, by simpa using h2⟩, ?_⟩
    clear h2 e us le
    rintro j k H2 ⟨rfl, hjY, le2, us, e2, h2⟩
    by_cases hlt2 : j < ys.length
    · refine .inr ⟨w1.goes j H2 hlt2 (hG1 H2 le2), fun H' => Le H1 H' ∧ ∃ us, H' D = some (.lst us) ∧ All2 (fun v s => Rel v s H') us (((R.take i).flatMap fun r => S.map (comb r)) ++ (S.take (j + 1)).map (comb r)), fun H' p => ⟨ys.length - (j + 1), by omega, rfl, hlt2, p⟩, fun z H3 y3 => ?_⟩
      obtain ⟨rfl, hz⟩ := hY1 j H2 z H3 (w1.yields j H2 z H3 hlt2 (hG1 H2 le2) y3)
      have hs : S[j]? = some (S[j]'(by omega)) := List.getElem?_eq_getElem _
      generalize S[j]'(by omega) = s at hs
      obtain ⟨σy, y1, y2, y3⟩ := x4 j z s H3 hz hs le2
      refine y2 _ ⟨y1, ?_⟩
      show te σy H3 _
      refine y3 _ fun v H4 l4 hv => ?_
      have e4 := l4 _ _ e2
      have hul := h2.len
      rw [List.length_append, List.length_map, List.length_take] at hul
      have lx : LeX D H4 (upd H4 D (.lst (us ++ [v]))) := Le.refl.x.upd
      refine ⟨us, e4, ?_, (le2.trans l4).upd hD, us ++ [v], upd_self, ?_⟩
      · have h1 := lenT i
        have h3 : i * S.length + S.length ≤ xs.length * ys.length := by
          rw [← Nat.succ_mul, hS]
          exact Nat.mul_le_mul_right _ hlt
        omega
      · rw [take_snoc hs, List.map_append, ← List.append_assoc]
        exact (h2.imp fun v s q => mono v s _ _ lx ⟨_, e4⟩ (mono v s _ _ l4.x ⟨_, e2⟩ q)).app (.cons (mono v _ _ _ lx ⟨_, e4⟩ hv) .nil)
    · have ej : j = ys.length := by omega
      subst ej
      refine .inl ⟨w1.stops H2 (hG1 H2 le2), le2, us, e2, ?_⟩
      rw [← hS, List.take_length] at h2
      rw [flat_take _ _ _ _ hr]
      exact h2
  · have ei : i = xs.length := by omega
    subst ei
    rw [← hR, List.take_length] at h2
    exact .inl ⟨w.stops H (hG H le), hd H us le e h2⟩
end
end Od
end
section
set_option Elab.async false
set_option linter.all false
set_option maxRecDepth 100000
set_option maxHeartbeats 2000000
set_option autoImplicit false
/-! charts: made, crossed, put together -/
namespace Od
open PySem PySem.Spec PyProof.Rows L2 C8 Day
abbrev s_Chart___init__ : Stmt := inClass (top 28) 0
abbrev N_Chart___init__ : List Str := ["self", "rows"]
abbrev P_Chart___init__ : List Str := ["self", "rows"]
theorem sc_Chart___init__ : FnScope N_Chart___init__ P_Chart___init__ (C8.fnScope s_Chart___init__) := fnScope_by (by decide +kernel)
abbrev s_Chart_none : Stmt := inClass (top 28) 1
abbrev N_Chart_none : List Str := ["cls"]
abbrev P_Chart_none : List Str := ["cls"]
theorem sc_Chart_none : FnScope N_Chart_none P_Chart_none (C8.fnScope s_Chart_none) := fnScope_by (by decide +kernel)
abbrev s_Chart_every : Stmt := inClass (top 28) 2
abbrev N_Chart_every : List Str := ["cls"]
abbrev P_Chart_every : List Str := ["cls"]
theorem sc_Chart_every : FnScope N_Chart_every P_Chart_every (C8.fnScope s_Chart_every) := fnScope_by (by decide +kernel)
abbrev s_Chart_of : Stmt := inClass (top 28) 3
abbrev N_Chart_of : List Str := ["cls", "days", "ages"]
abbrev P_Chart_of : List Str := ["cls", "days", "ages"]
theorem sc_Chart_of : FnScope N_Chart_of P_Chart_of (C8.fnScope s_Chart_of) := fnScope_by (by decide +kernel)
abbrev s_Chart_crossed : Stmt := inClass (top 28) 4
abbrev N_Chart_crossed : List Str := ["self", "other", "days", "ages", "more", "others"]
abbrev P_Chart_crossed : List Str := ["self", "other"]
theorem sc_Chart_crossed : FnScope N_Chart_crossed P_Chart_crossed (C8.fnScope s_Chart_crossed) := fnScope_by (by decide +kernel)
abbrev s_Chart___or__ : Stmt := inClass (top 28) 6
abbrev N_Chart___or__ : List Str := ["self", "other", "days", "ages", "others"]
abbrev P_Chart___or__ : List Str := ["self", "other"]
theorem sc_Chart___or__ : FnScope N_Chart___or__ P_Chart___or__ (C8.fnScope s_Chart___or__) := fnScope_by (by decide +kernel)
abbrev s_Chart___and__ : Stmt := inClass (top 28) 7
abbrev N_Chart___and__ : List Str := ["self", "other", "days", "ages", "others"]
abbrev P_Chart___and__ : List Str := ["self", "other"]
theorem sc_Chart___and__ : FnScope N_Chart___and__ P_Chart___and__ (C8.fnScope s_Chart___and__) := fnScope_by (by decide +kernel)
abbrev s_Chart___sub__ : Stmt := inClass (top 28) 8
abbrev N_Chart___sub__ : List Str := ["self", "other", "days", "ages", "others"]
abbrev P_Chart___sub__ : List Str := ["self", "other"]
theorem sc_Chart___sub__ : FnScope N_Chart___sub__ P_Chart___sub__ (C8.fnScope s_Chart___sub__) := fnScope_by (by decide +kernel)
abbrev s_Chart___xor__ : Stmt := inClass (top 28) 9
abbrev N_Chart___xor__ : List Str := ["self", "other", "days", "ages", "others"]
abbrev P_Chart___xor__ : List Str := ["self", "other"]
theorem sc_Chart___xor__ : FnScope N_Chart___xor__ P_Chart___xor__ (C8.fnScope s_Chart___xor__) := fnScope_by (by decide +kernel)
abbrev s_Chart___invert__ : Stmt := inClass (top 28) 10
abbrev N_Chart___invert__ : List Str := ["self", "days", "ages"]
abbrev P_Chart___invert__ : List Str := ["self"]
theorem sc_Chart___invert__ : FnScope N_Chart___invert__ P_Chart___invert__ (C8.fnScope s_Chart___invert__) := fnScope_by (by decide +kernel)
theorem RowAt.lxi {C x X dx : Addr} {H H' : Hp} {v : V} {r : Row2} (h : RowAt C H v r) (l : LeX x H H') (hx : H x = some (.ins X dx [])) : RowAt C H' v r := by
  obtain ⟨t, a, b, e, h1, ⟨F, dx, L, z, m, h2⟩, ⟨G, dy, L', z', m', h3⟩, h4⟩ := h
  refine ⟨t, a, b, e, l _ _ (fun c => ?_) h1, ⟨F, dx, L, z, m, l _ _ (fun c => ?_) h2⟩, ⟨G, dy, L', z', m', l _ _ (fun c => ?_) h3⟩, h4⟩
  · rw [c, hx] at h1; cases h1
  · rw [c, hx] at h2; cases h2
  · rw [c, hx] at h3; cases h3
theorem RowsAt.lxi {C x X dx : Addr} {H H' : Hp} {vs : List V} {R : List Row2} (h : RowsAt C H vs R) (l : LeX x H H') (hx : H x = some (.ins X dx [])) : RowsAt C H' vs R := by
  induction h with
  | nil => exact .nil
  | cons h _ ih => exact .cons (h.lxi l hx) ih
/-- p is the chart g -/
def IsChart (C X : Addr) (H : Hp) (p : Addr) (g : Int → DF) : Prop := ∃ dx l xs R, H p = some (.ins X dx [("pairs", .ref l)]) ∧ H l = some (.lst xs) ∧ RowsAt C H xs R ∧ LeastR R g ∧ SortedR R
theorem IsChart.le {C X p : Addr} {H H' : Hp} {g : Int → DF} (c : IsChart C X H p g) (l : Le H H') : IsChart C X H' p g := by
  obtain ⟨dx, q, xs, R, h1, h2, h3, h4⟩ := c
  exact ⟨dx, q, xs, R, l _ _ h1, l _ _ h2, h3.le l, h4⟩
theorem IsChart.to {C X p : Addr} {H : Hp} {g g' : Int → DF} (c : IsChart C X H p g) (h : ∀ d a, g d a = g' d a) : IsChart C X H p g' := by
  have : g = g' := funext fun d => funext fun a => h d a
  subst this
  exact c
section
variable {P : Program} {w : World} {K : PySem.W.Frag} {mg : Str → Option Value} {base : Heap}
def sp_cinit (C X : Addr) : Sp := fun vs H Q _ => ∃ (x dx p : Addr) (xs : List V) (R : List Row2) (g : Int → DF), vs = [.ref x, .ref p] ∧ H x = some (.ins X dx []) ∧ H p = some (.lst xs) ∧ RowsAt C H xs R ∧ Tells R g ∧ R.length ≤ 1000000 ∧
  ∀ l ys R' H', LeX x H H' → H' x = some (.ins X dx [("pairs", .ref l)]) → H' l = some (.lst ys) → RowsAt C H' ys R' → LeastR R' g → SortedR R' → Q .non H'
theorem k_cinit {C X : Addr} (T : Txt K mg) (DC : DCC K mg X) (M : MakOf K X "Chart.__init__" s_Chart___init__ P_Chart___init__) (C_merged : Cal P w K mg base 8 "merged" (sp_rows C) []) : Mak P w K mg base 9 "Chart" X (sp_cinit C X) [] := by
  obtain ⟨f, fd, M, F, B⟩ := M
  refine mak0 M DC.c F B .nil sc_Chart___init__ (fun vs H Q E h => by obtain ⟨_, _, _, _, _, _, rfl, _⟩ := h; rfl) (fun cdv A outer s H vs Q E hr h => ?_)
  obtain ⟨x, dx, p, xs, R, g, rfl, hx, hp, hR, tl, hl, qq⟩ := h
  have nd := sc_Chart___init__.nd
  refine ⟨_, (pss_one (ps_fld (pv 0) (pe_c C_merged hr (by decide) rfl (pa_cons (pv 1) pa_nil)) rfl)), ?_⟩
  refine ⟨_, rfl, p, xs, R, g, rfl, hp, hR, tl, hl, fun l H' ys R' le nl e1 e2 e3 e4 => ?_⟩
  have hx' := le x _ hx
  refine ⟨_, rfl, _, _, _, _, rfl, hx', DC.cl, DC.n_pairs, by decide, ?_⟩
  have nlx : l ≠ x := fun c => by rw [c, hx'] at e1; cases e1
  refine qq l ys R' _ (le.x.upd) upd_self (by rw [upd_ne nlx]; exact e1) (e2.lxi (Le.refl.x.upd) hx') e3 e4
/-- a new chart -/
theorem make_chart {C X : Addr} {H : Hp} {Q : VK} {E : XK} {p : Addr} {xs : List V} {R : List Row2} {g : Int → DF} (hp : H p = some (.lst xs)) (hR : RowsAt C H xs R) (tl : Tells R g) (hl : R.length ≤ 1000000)
    (q : ∀ c H', Le H H' → IsChart C X H' c g → H c = none → Q (.ref c) H') :
    ∀ x dx, H x = none → H dx = none → dx ≠ x → sp_cinit C X (.ref x :: ([.ref p] ++ [])) (upd (upd H dx (.own x)) x (.ins X dx [])) (fun v H2 => v = .non ∧ Q (.ref x) H2) E := by
  intro x dx hx hdx ne
  have l2 : Le H (upd (upd H dx (.own x)) x (.ins X dx [])) := (Le.new hdx).trans (Le.new (by rw [upd_ne (fun c => ne c.symm)]; exact hx))
  refine ⟨x, dx, p, xs, R, g, rfl, upd_self, l2 _ _ hp, hR.le l2, tl, hl, fun l ys R' H' lx e0 e1 e2 e3 e4 => ⟨rfl, q x H' (fun a o ha => ?_) ⟨dx, l, ys, R', e0, e1, e2, e3, e4⟩ hx⟩⟩
  have c1 : a ≠ x := fun c => by subst c; rw [hx] at ha; cases ha
  exact lx a o c1 (l2 _ _ ha)
def sp_ckst (C X : Addr) (t : Bool) : Sp := fun vs H Q _ => vs = [.ref X] ∧ ∀ r H', Le H H' → IsChart C X H' r (fun _ _ => t) → H r = none → Q (.ref r) H'
theorem okK (t : Bool) : OkC (fun _ => t) := Ok.kst (by decide) (by decide) (by decide) (by decide)
theorem q_cnone {C X : Addr} (T : Txt K mg) (D : DSC K mg C) (DC : DCC K mg X) (M : ClmOf K X "none" "Chart.none" s_Chart_none P_Chart_none) (K_DaySet_none : CMt P w K mg base 6 C "none" (sp_kst C false)) (K_DaySet_every : CMt P w K mg base 6 C "every" (sp_kst C true)) (M_Chart : Mak P w K mg base 9 "Chart" X (sp_cinit C X) []) : CMt P w K mg base 11 X "none" (sp_ckst C X false) := by
  obtain ⟨mc, pp, g, fd, r, cm, F, B⟩ := M
  refine cmt0 r cm F B sc_Chart_none (fun vs H Q E h => by obtain ⟨rfl, _⟩ := h; rfl) (fun cdv A outer s H vs Q E hr h => ?_)
  obtain ⟨rfl, qq⟩ := h
  have nd := sc_Chart_none.nd
  refine ⟨_, (pss_one (ps_ret (pe_mk M_Chart hr (by decide) rfl (pa_cons (pe_lst (pa_cons (pe_tup (pa_cons (pe_cm0 K_DaySet_every hr (by decide) (pe_gc rfl D.g)) (pa_cons (pe_cm0 K_DaySet_none hr (by decide) (pe_gc rfl D.g)) pa_nil))) pa_nil)) pa_nil)))), ?_⟩
  refine ⟨rfl, rfl, fun a H1 l1 da na => ?_⟩
  refine ⟨rfl, rfl, fun b H2 l2 db nb => ?_⟩
  refine ⟨le_szl 2 (by decide), fun t nt => ⟨le_szl 1 (by decide), fun p np => ?_⟩⟩
  have l3 := (Le.new (o := .tup [.ref a, .ref b]) nt).trans (Le.new (o := .lst [.ref t]) np)
  refine make_chart (R := [((fun _ => true), fun _ => false)]) upd_self (.cons ⟨t, a, b, rfl, (Le.new np) _ _ upd_self, (da.le l2).le l3, db.le l3, okK true, okK false⟩ .nil) (Tells.one _) (by decide) fun c H' l4 hc nc => qq c H' ((l1.trans l2).trans (l3.trans l4)) hc (((l1.trans l2).trans l3).none nc)
theorem q_cevery {C X : Addr} (T : Txt K mg) (D : DSC K mg C) (DC : DCC K mg X) (M : ClmOf K X "every" "Chart.every" s_Chart_every P_Chart_every) (K_DaySet_every : CMt P w K mg base 6 C "every" (sp_kst C true)) (M_Chart : Mak P w K mg base 9 "Chart" X (sp_cinit C X) []) : CMt P w K mg base 11 X "every" (sp_ckst C X true) := by
  obtain ⟨mc, pp, g, fd, r, cm, F, B⟩ := M
  refine cmt0 r cm F B sc_Chart_every (fun vs H Q E h => by obtain ⟨rfl, _⟩ := h; rfl) (fun cdv A outer s H vs Q E hr h => ?_)
  obtain ⟨rfl, qq⟩ := h
  have nd := sc_Chart_every.nd
  refine ⟨_, (pss_one (ps_ret (pe_mk M_Chart hr (by decide) rfl (pa_cons (pe_lst (pa_cons (pe_tup (pa_cons (pe_cm0 K_DaySet_every hr (by decide) (pe_gc rfl D.g)) (pa_cons (pe_cm0 K_DaySet_every hr (by decide) (pe_gc rfl D.g)) pa_nil))) pa_nil)) pa_nil)))), ?_⟩
  refine ⟨rfl, rfl, fun a H1 l1 da na => ?_⟩
  refine ⟨rfl, rfl, fun b H2 l2 db nb => ?_⟩
  refine ⟨le_szl 2 (by decide), fun t nt => ⟨le_szl 1 (by decide), fun p np => ?_⟩⟩
  have l3 := (Le.new (o := .tup [.ref a, .ref b]) nt).trans (Le.new (o := .lst [.ref t]) np)
  refine make_chart (R := [((fun _ => true), fun _ => true)]) upd_self (.cons ⟨t, a, b, rfl, (Le.new np) _ _ upd_self, (da.le l2).le l3, db.le l3, okK true, okK true⟩ .nil) (Tells.one _) (by decide) fun c H' l4 hc nc => qq c H' ((l1.trans l2).trans (l3.trans l4)) hc (((l1.trans l2).trans l3).none nc)
def sp_cof (C X : Addr) : Sp := fun vs H Q _ => ∃ (a b : Addr) (f h : DF), vs = [.ref X, .ref a, .ref b] ∧ IsDay C H a f ∧ IsDay C H b h ∧ OkC f ∧ OkC h ∧ ∀ r H', Le H H' → IsChart C X H' r (fun d n => f d && h n) → H r = none → Q (.ref r) H'
theorem q_cof {C X : Addr} (T : Txt K mg) (D : DSC K mg C) (DC : DCC K mg X) (M : ClmOf K X "of" "Chart.of" s_Chart_of P_Chart_of) (K_DaySet_none : CMt P w K mg base 6 C "none" (sp_kst C false)) (Q_DaySet___invert__ : Met P w K mg base 7 C "__invert__" (sp_inv C) []) (M_Chart : Mak P w K mg base 9 "Chart" X (sp_cinit C X) []) : CMt P w K mg base 11 X "of" (sp_cof C X) := by
  obtain ⟨mc, pp, g, fd, r, cm, F, B⟩ := M
  refine cmt0 r cm F B sc_Chart_of (fun vs H Q E h => by obtain ⟨_, _, _, _, rfl, _⟩ := h; rfl) (fun cdv A outer s H vs Q E hr h => ?_)
  obtain ⟨a, b, f, h, rfl, da, db, oa, ob, qq⟩ := h
  have nd := sc_Chart_of.nd
  refine ⟨_, (pss_one (ps_ret (pe_mk M_Chart hr (by decide) rfl (pa_cons (pe_lst (pa_cons (pe_tup (pa_cons (pv 1) (pa_cons (pv 2) pa_nil))) (pa_cons (pe_tup (pa_cons (pe_un (un_ownInvM Q_DaySet___invert__ hr (by decide)) (pv 1)) (pa_cons (pe_cm0 K_DaySet_none hr (by decide) (pe_gc rfl D.g)) pa_nil))) pa_nil))) pa_nil)))), ?_⟩
  refine ⟨_, rfl, _, rfl, le_szl 2 (by decide), fun t nt => ?_⟩
  have l1 := Le.new (o := .tup [.ref a, .ref b]) nt
  have da1 := da.le l1
  obtain ⟨_, dxa, _, _, _, ha1⟩ := id da1
  refine ⟨_, rfl, _, _, _, rfl, ha1, a, f, 12, 200, rfl, da1, oa, fun c H2 l2 dc nc => ?_⟩
  refine ⟨rfl, rfl, fun e H3 l3 de ne => ?_⟩
  refine ⟨le_szl 2 (by decide), fun t2 nt2 => ⟨le_szl 2 (by decide), fun p np => ?_⟩⟩
  have l4 := (Le.new (o := .tup [.ref c, .ref e]) nt2).trans (Le.new (o := .lst [.ref t, .ref t2]) np)
  have l23 := (l2.trans l3).trans l4
  refine make_chart (R := [(f, h), ((fun n => !f n), fun _ => false)]) upd_self (.cons ⟨t, a, b, rfl, l23 _ _ upd_self, da1.le l23, (db.le l1).le l23, oa, ob⟩ (.cons ⟨t2, c, e, rfl, (Le.new np) _ _ upd_self, (dc.le l3).le l4, de.le l4, oa.not, okK false⟩ .nil)) (Tells.of _ _) (show 2 ≤ 1000000 by decide) fun c H' l5 hc nc => qq c H' ((l1.trans l23).trans l5) hc ((l1.trans l23).none nc)
/-- a tuple of three sets -/
def TripAt (C : Addr) (H : Hp) (v : V) (s : DF × DF × DF) : Prop := ∃ t x y z : Addr, v = .ref t ∧ H t = some (.tup [.ref x, .ref y, .ref z]) ∧ IsDay C H x s.1 ∧ IsDay C H y s.2.1 ∧ IsDay C H z s.2.2 ∧ OkC s.1 ∧ OkC s.2.1 ∧ OkC s.2.2
theorem isDay_lst {C D p : Addr} {H H' : Hp} {f : DF} (h : IsDay C H p f) (l : LeX D H H') (hD : ∃ acc, H D = some (.lst acc)) : IsDay C H' p f := by
  obtain ⟨F, dx, L, z, m, e⟩ := h
  obtain ⟨acc, hD⟩ := hD
  exact ⟨F, dx, L, z, m, l _ _ (fun c => by rw [c, hD] at e; cases e) e⟩
theorem tup_lst {D p : Addr} {H H' : Hp} {us : List V} (h : H p = some (.tup us)) (l : LeX D H H') (hD : ∃ acc, H D = some (.lst acc)) : H' p = some (.tup us) := by
  obtain ⟨acc, hD⟩ := hD
  exact l _ _ (fun c => by rw [c, hD] at h; cases h) h
theorem TripAt.lst {C D : Addr} {H H' : Hp} {v : V} {s : DF × DF × DF} (h : TripAt C H v s) (l : LeX D H H') (hD : ∃ acc, H D = some (.lst acc)) : TripAt C H' v s := by
  obtain ⟨t, x, y, z, e, h1, h2, h3, h4, h5⟩ := h
  exact ⟨t, x, y, z, e, tup_lst h1 l hD, isDay_lst h2 l hD, isDay_lst h3 l hD, isDay_lst h4 l hD, h5⟩
theorem RowAt.lst {C D : Addr} {H H' : Hp} {v : V} {s : Row2} (h : RowAt C H v s) (l : LeX D H H') (hD : ∃ acc, H D = some (.lst acc)) : RowAt C H' v s := by
  obtain ⟨t, x, y, e, h1, h2, h3, h5⟩ := h
  exact ⟨t, x, y, e, tup_lst h1 l hD, isDay_lst h2 l hD, isDay_lst h3 l hD, h5⟩
theorem RowsAt.of2 {C : Addr} {H : Hp} {vs : List V} {R : List Row2} (h : All2 (fun v s => RowAt C H v s) vs R) : RowsAt C H vs R := by
  induction h with
  | nil => exact .nil
  | cons h _ ih => exact .cons h ih
def crossT (R S : List Row2) : List (DF × DF × DF) := R.flatMap fun r => S.map fun s => ((fun n => r.1 n && s.1 n), r.2, s.2)
def cmb (t : Bool → Bool → Bool) (x : DF × DF × DF) : Row2 := (x.1, fun n => t (x.2.1 n) (x.2.2 n))
theorem crossT_map (R S : List Row2) (t : Bool → Bool → Bool) : (crossT R S).map (cmb t) = crossR R S t := by
  unfold crossT crossR
  rw [List.map_flatMap]
  congr 1
  funext r
  rw [List.map_map]
  rfl
theorem crossR_len (R S : List Row2) (t : Bool → Bool → Bool) : (crossR R S t).length ≤ R.length * S.length :=
  flat_len _ S.length (fun r => by rw [List.length_map]; exact Nat.le_refl _) R
def sp_crossed (C X : Addr) : Sp := fun vs H Q _ => ∃ (p q : Addr) (g g' : Int → DF) (κ : Int → Nat) (m : Nat), vs = [.ref p, .ref q] ∧ IsChart C X H p g ∧ IsChart C X H q g' ∧ Dep κ m g ∧ Dep κ m g' ∧ m ≤ 1000 ∧
  ∀ l us R S H', Le H H' → H l = none → H' l = some (.lst us) → All2 (fun v s => TripAt C H' v s) us (crossT R S) → LeastR R g → LeastR S g' → Q (.ref l) H'
theorem q_crossed {C X : Addr} (T : Txt K mg) (D : DSC K mg C) (DC : DCC K mg X) (M : MetOf K X "crossed" "Chart.crossed" s_Chart_crossed P_Chart_crossed) (Q_DaySet___and__ : Met P w K mg base 7 C "__and__" (sp_bin C fun a b => a && b) []) : Met P w K mg base 8 X "crossed" (sp_crossed C X) [] := by
  obtain ⟨g_, fd, M, F, B⟩ := M
  refine met0 DC.cl M F B sc_Chart_crossed (fun vs H Q E h => by obtain ⟨_, _, _, _, _, _, rfl, _⟩ := h; rfl) (fun cdv A outer s H vs Q E hr h => ?_)
  obtain ⟨p, q, g, g', κ, m, rfl, hp, hq, k1, k2, hm, qq⟩ := h
  have nd := sc_Chart_crossed.nd
  refine ⟨_, (pss_one (ps_ret (pe_lc2 (own := [("days", 2), ("ages", 3), ("more", 4), ("others", 5)]) (vs1 := [4, 5]) (g := (gTup K 2 (gCons (gName 2) (gCons (gName 3) gNil)))) (g1 := (gTup K 2 (gCons (gName 4) (gCons (gName 5) gNil)))) (by rfl) nd (pi_list (pe_fld (pv 0) rfl)) (blkOk_by (own := [("days", 2), ("ages", 3), ("more", 4), ("others", 5)]) (N := N_Chart_crossed) (sc := C8.fnScope s_Chart_crossed) (by decide +kernel)) (by decide) (fun _ _ _ _ _ => (pg_tupK (K := K) rfl rfl (pgs_cons (pg_name (i := 2) nd rfl (Or.inl rfl) (Or.inr rfl)) (pgs_cons (pg_name (i := 3) nd rfl (Or.inl rfl) (Or.inr rfl)) pgs_nil)))) (fun _ _ _ _ _ => pts_nil) (fun _ _ _ _ _ => (pi_listK (K := K) rfl (pe_fldK (K := K) rfl (pe_fld (pv 1) rfl)))) (fun _ _ _ _ _ => (pg_tupK (K := K) rfl rfl (pgs_cons (pg_name (i := 4) nd rfl (Or.inl rfl) (Or.inr rfl)) (pgs_cons (pg_name (i := 5) nd rfl (Or.inl rfl) (Or.inr rfl)) pgs_nil)))) (fun _ _ _ _ _ => pts_nil) (fun _ _ _ _ _ => (pe_tup (pa_cons (pe_op (op_ownM D.sf Q_DaySet___and__ hr (by decide)) (pv 2) (pv 4)) (pa_cons (pv 3) (pa_cons (pv 5) pa_nil)))))))), ?_⟩
  obtain ⟨dx, lp, xs, R, hp1, hlp, hR, lR, _⟩ := hp
  obtain ⟨dy, lq, ys, S, hq1, hlq, hS, lS, _⟩ := hq
  have r1 := lR.few k1
  have r2 := lS.few k2
  refine ⟨_, rfl, _, _, _, _, _, rfl, hp1, DC.cl, DC.n_pairs, by rfl, _, rfl, ⟨_, .of hlp⟩, fun D1 nD1 => ?_⟩
  refine lc2_eff (xs := xs) (ys := ys) (J1 := Itl K lq) walk_list gives_at walk_list gives_at nD1 (fun _ le => .of (le _ _ hlp)) (fun _ le => .of (le _ _ hlq)) R S hR.len.symm hS.len.symm ?_ (fun r s => ((fun n => r.1 n && s.1 n), r.2, s.2)) (fun v s H => TripAt C H v s) (fun v s H H' l hD h => h.lst l hD) ?_ ?_
  · rw [hR.len, hS.len]
    have := Nat.mul_le_mul r1 r2
    have h2 : m * m ≤ 1000 * 1000 := Nat.mul_le_mul hm hm
    exact le_szl _ (by omega)
  · intro i x r Hx hx hr le
    obtain ⟨r', hr', t, a, b, rfl, ht, da, db, oa, ob⟩ := hR.get hx
    obtain rfl : r' = r := by rw [hr] at hr'; exact (Option.some.inj hr').symm
    refine ⟨_, ?_, fun K2 hK => ⟨t, _, rfl, .of (le _ _ ht), rfl, _, _, rfl, _, _, rfl, rfl, hK⟩, fun Rr hRr => ⟨_, rfl, _, _, _, _, _, rfl, le _ _ hq1, DC.cl, DC.n_pairs, by rfl, _, rfl, ⟨_, .of (le _ _ hlq)⟩, hRr⟩, ?_⟩
    · rfl
    · intro j y s Hy hy hs le2
      obtain ⟨s', hs', t2, a2, b2, rfl, ht2, da2, db2, oa2, ob2⟩ := hS.get hy
      obtain rfl : s' = s := by rw [hs] at hs'; exact (Option.some.inj hs').symm
      refine ⟨_, ?_, fun K3 hK => ⟨t2, _, rfl, .of (le2 _ _ ht2), rfl, _, _, rfl, _, _, rfl, rfl, hK⟩, fun N hN => ?_⟩
      · rfl
      · have da' := da.le le2
        have da2' := da2.le le2
        obtain ⟨_, _, _, _, _, ha1⟩ := id da'
        obtain ⟨_, _, _, _, _, ha2⟩ := id da2'
        refine ⟨_, rfl, _, rfl, _, _, _, _, _, _, rfl, rfl, ha1, ha2, a, a2, r'.1, s'.1, 12, 200, rfl, da', da2', oa, oa2, fun nw H3 l3 dn nn => ?_⟩
        refine ⟨_, rfl, _, rfl, le_szl 3 (by decide), fun t3 nt3 => ?_⟩
        have l4 := Le.new (o := .tup [.ref nw, .ref b, .ref b2]) nt3
        exact hN _ _ (l3.trans l4) ⟨t3, nw, b, b2, rfl, upd_self, dn.le l4, ((db.le le2).le l3).le l4, ((db2.le le2).le l3).le l4, oa.bin oa2 fun x y => x && y, ob, ob2⟩
  · intro H2 us le e hT
    exact qq D1 us R S H2 le nD1 e hT lR lS
def sp_cbin (C X : Addr) (t : Bool → Bool → Bool) : Sp := fun vs H Q _ => ∃ (p q : Addr) (g g' : Int → DF) (κ : Int → Nat) (m : Nat), vs = [.ref p, .ref q] ∧ IsChart C X H p g ∧ IsChart C X H q g' ∧ Dep κ m g ∧ Dep κ m g' ∧ m ≤ 1000 ∧
  ∀ r H', Le H H' → IsChart C X H' r (fun d n => t (g d n) (g' d n)) → H r = none → Q (.ref r) H'
theorem q_cor {C X : Addr} (T : Txt K mg) (D : DSC K mg C) (DC : DCC K mg X) (M : MetOf K X "__or__" "Chart.__or__" s_Chart___or__ P_Chart___or__) (Q_Chart_crossed : Met P w K mg base 8 X "crossed" (sp_crossed C X) []) (Q_DaySet___or__ : Met P w K mg base 7 C "__or__" (sp_bin C fun a b => a || b) []) (M_Chart : Mak P w K mg base 9 "Chart" X (sp_cinit C X) []) : Met P w K mg base 11 X "__or__" (sp_cbin C X fun a b => a || b) [] := by
  obtain ⟨g_, fd, M, F, B⟩ := M
  refine met0 DC.cl M F B sc_Chart___or__ (fun vs H Q E h => by obtain ⟨_, _, _, _, _, _, rfl, _⟩ := h; rfl) (fun cdv A outer s H vs Q E hr h => ?_)
  obtain ⟨p, q, g, g', κ, m, rfl, hp, hq, k1, k2, hm, qq⟩ := h
  have nd := sc_Chart___or__.nd
  refine ⟨_, (pss_one (ps_ret (pe_mk M_Chart hr (by decide) rfl (pa_cons (pe_lc (own := [("days", 2), ("ages", 3), ("others", 4)]) (g := (gTup K 3 (gCons (gName 2) (gCons (gName 3) (gCons (gName 4) gNil))))) (by rfl) nd (pi_list (pe_mt Q_Chart_crossed hr (by decide) (pv 0) (pa_cons (pv 1) pa_nil))) (blkOk_by (own := [("days", 2), ("ages", 3), ("others", 4)]) (N := N_Chart___or__) (sc := C8.fnScope s_Chart___or__) (by decide +kernel)) (fun _ _ _ _ _ => (pg_tupK (K := K) rfl rfl (pgs_cons (pg_name (i := 2) nd rfl (Or.inl rfl) (Or.inr rfl)) (pgs_cons (pg_name (i := 3) nd rfl (Or.inl rfl) (Or.inr rfl)) (pgs_cons (pg_name (i := 4) nd rfl (Or.inl rfl) (Or.inr rfl)) pgs_nil))))) (fun _ _ _ _ _ => pts_nil) (fun _ _ _ _ _ => (pe_tup (pa_cons (pv 2) (pa_cons (pe_op (op_ownM D.sf Q_DaySet___or__ hr (by decide)) (pv 3) (pv 4)) pa_nil))))) pa_nil)))), ?_⟩
  obtain ⟨_, _, _, _, hp1, _⟩ := id hp
  refine ⟨_, rfl, _, _, _, rfl, hp1, by rfl, _, rfl, p, q, g, g', κ, m, rfl, hp, hq, k1, k2, hm, fun l us R S H1 l1 nl e1 hT lR lS => ?_⟩
  have r1 := lR.few k1
  have r2 := lS.few k2
  have hmm : R.length * S.length ≤ 1000000 := Nat.le_trans (Nat.mul_le_mul (Nat.le_trans r1 hm) (Nat.le_trans r2 hm)) (by decide)
  have hcl : ∀ t, (crossR R S t).length ≤ 1000000 := fun t => Nat.le_trans (crossR_len R S t) hmm
  have hus : us.length ≤ 1000000 := by
    rw [hT.len, ← List.length_map (as := crossT R S) (cmb (fun a b => a || b)), crossT_map]
    exact hcl _
  refine ⟨l, rfl, ⟨_, .of e1⟩, fun D1 nD1 => ?_⟩
  refine lc_eff (xs := us) walk_list gives_at nD1 (fun _ le => .of (le _ _ e1)) (crossT R S) hT.len.symm (le_szl _ (by omega)) (cmb (fun a b => a || b)) (fun v s H => RowAt C H v s) (fun v s H H' l hD h => h.lst l hD) ?_ ?_
  · intro i x r Hx hx hr le
    obtain ⟨r', hr', t, a, b, c, rfl, ht, da, db, dc, oa, ob, oc⟩ := hT.get hx
    obtain rfl : r' = r := by rw [hr] at hr'; exact (Option.some.inj hr').symm
    refine ⟨_, ?_, fun K2 hK => ⟨t, _, rfl, .of (le _ _ ht), rfl, _, _, rfl, _, _, rfl, _, _, rfl, rfl, hK⟩, fun N hN => ?_⟩
    · rfl
    · have db' := db.le le
      have dc' := dc.le le
      obtain ⟨_, _, _, _, _, hb1⟩ := id db'
      obtain ⟨_, _, _, _, _, hc1⟩ := id dc'
      refine ⟨_, rfl, _, rfl, _, rfl, _, _, _, _, _, _, rfl, rfl, hb1, hc1, b, c, r'.2.1, r'.2.2, 12, 200, rfl, db', dc', ob, oc, fun nw H3 l3 dn nn => ?_⟩
      refine ⟨le_szl 2 (by decide), fun t3 nt3 => ?_⟩
      have l4 := Le.new (o := .tup [.ref a, .ref nw]) nt3
      exact hN _ _ (l3.trans l4) ⟨t3, a, nw, rfl, upd_self, ((da.le le).le l3).le l4, dn.le l4, oa, ob.bin oc fun a b => a || b⟩
  · intro H2 ws le e hW
    rw [crossT_map] at hW
    exact make_chart e (RowsAt.of2 hW) (Tells.cross lR.t lS.t _) (hcl _) fun c H' l4 hc nc => qq c H' ((l1.trans le).trans l4) hc ((l1.trans le).none nc)
theorem q_cand {C X : Addr} (T : Txt K mg) (D : DSC K mg C) (DC : DCC K mg X) (M : MetOf K X "__and__" "Chart.__and__" s_Chart___and__ P_Chart___and__) (Q_Chart_crossed : Met P w K mg base 8 X "crossed" (sp_crossed C X) []) (Q_DaySet___and__ : Met P w K mg base 7 C "__and__" (sp_bin C fun a b => a && b) []) (M_Chart : Mak P w K mg base 9 "Chart" X (sp_cinit C X) []) : Met P w K mg base 11 X "__and__" (sp_cbin C X fun a b => a && b) [] := by
  obtain ⟨g_, fd, M, F, B⟩ := M
  refine met0 DC.cl M F B sc_Chart___and__ (fun vs H Q E h => by obtain ⟨_, _, _, _, _, _, rfl, _⟩ := h; rfl) (fun cdv A outer s H vs Q E hr h => ?_)
  obtain ⟨p, q, g, g', κ, m, rfl, hp, hq, k1, k2, hm, qq⟩ := h
  have nd := sc_Chart___and__.nd
  refine ⟨_, (pss_one (ps_ret (pe_mk M_Chart hr (by decide) rfl (pa_cons (pe_lc (own := [("days", 2), ("ages", 3), ("others", 4)]) (g := (gTup K 3 (gCons (gName 2) (gCons (gName 3) (gCons (gName 4) gNil))))) (by rfl) nd (pi_list (pe_mt Q_Chart_crossed hr (by decide) (pv 0) (pa_cons (pv 1) pa_nil))) (blkOk_by (own := [("days", 2), ("ages", 3), ("others", 4)]) (N := N_Chart___and__) (sc := C8.fnScope s_Chart___and__) (by decide +kernel)) (fun _ _ _ _ _ => (pg_tupK (K := K) rfl rfl (pgs_cons (pg_name (i := 2) nd rfl (Or.inl rfl) (Or.inr rfl)) (pgs_cons (pg_name (i := 3) nd rfl (Or.inl rfl) (Or.inr rfl)) (pgs_cons (pg_name (i := 4) nd rfl (Or.inl rfl) (Or.inr rfl)) pgs_nil))))) (fun _ _ _ _ _ => pts_nil) (fun _ _ _ _ _ => (pe_tup (pa_cons (pv 2) (pa_cons (pe_op (op_ownM D.sf Q_DaySet___and__ hr (by decide)) (pv 3) (pv 4)) pa_nil))))) pa_nil)))), ?_⟩
  obtain ⟨_, _, _, _, hp1, _⟩ := id hp
  refine ⟨_, rfl, _, _, _, rfl, hp1, by rfl, _, rfl, p, q, g, g', κ, m, rfl, hp, hq, k1, k2, hm, fun l us R S H1 l1 nl e1 hT lR lS => ?_⟩
  have r1 := lR.few k1
  have r2 := lS.few k2
  have hmm : R.length * S.length ≤ 1000000 := Nat.le_trans (Nat.mul_le_mul (Nat.le_trans r1 hm) (Nat.le_trans r2 hm)) (by decide)
  have hcl : ∀ t, (crossR R S t).length ≤ 1000000 := fun t => Nat.le_trans (crossR_len R S t) hmm
  have hus : us.length ≤ 1000000 := by
    rw [hT.len, ← List.length_map (as := crossT R S) (cmb (fun a b => a && b)), crossT_map]
    exact hcl _
  refine ⟨l, rfl, ⟨_, .of e1⟩, fun D1 nD1 => ?_⟩
  refine lc_eff (xs := us) walk_list gives_at nD1 (fun _ le => .of (le _ _ e1)) (crossT R S) hT.len.symm (le_szl _ (by omega)) (cmb (fun a b => a && b)) (fun v s H => RowAt C H v s) (fun v s H H' l hD h => h.lst l hD) ?_ ?_
  · intro i x r Hx hx hr le
    obtain ⟨r', hr', t, a, b, c, rfl, ht, da, db, dc, oa, ob, oc⟩ := hT.get hx
    obtain rfl : r' = r := by rw [hr] at hr'; exact (Option.some.inj hr').symm
    refine ⟨_, ?_, fun K2 hK => ⟨t, _, rfl, .of (le _ _ ht), rfl, _, _, rfl, _, _, rfl, _, _, rfl, rfl, hK⟩, fun N hN => ?_⟩
    · rfl
    · have db' := db.le le
      have dc' := dc.le le
      obtain ⟨_, _, _, _, _, hb1⟩ := id db'
      obtain ⟨_, _, _, _, _, hc1⟩ := id dc'
      refine ⟨_, rfl, _, rfl, _, rfl, _, _, _, _, _, _, rfl, rfl, hb1, hc1, b, c, r'.2.1, r'.2.2, 12, 200, rfl, db', dc', ob, oc, fun nw H3 l3 dn nn => ?_⟩
      refine ⟨le_szl 2 (by decide), fun t3 nt3 => ?_⟩
      have l4 := Le.new (o := .tup [.ref a, .ref nw]) nt3
      exact hN _ _ (l3.trans l4) ⟨t3, a, nw, rfl, upd_self, ((da.le le).le l3).le l4, dn.le l4, oa, ob.bin oc fun a b => a && b⟩
  · intro H2 ws le e hW
    rw [crossT_map] at hW
    exact make_chart e (RowsAt.of2 hW) (Tells.cross lR.t lS.t _) (hcl _) fun c H' l4 hc nc => qq c H' ((l1.trans le).trans l4) hc ((l1.trans le).none nc)
theorem q_csub {C X : Addr} (T : Txt K mg) (D : DSC K mg C) (DC : DCC K mg X) (M : MetOf K X "__sub__" "Chart.__sub__" s_Chart___sub__ P_Chart___sub__) (Q_Chart_crossed : Met P w K mg base 8 X "crossed" (sp_crossed C X) []) (Q_DaySet___sub__ : Met P w K mg base 7 C "__sub__" (sp_bin C fun a b => a && !b) []) (M_Chart : Mak P w K mg base 9 "Chart" X (sp_cinit C X) []) : Met P w K mg base 11 X "__sub__" (sp_cbin C X fun a b => a && !b) [] := by
  obtain ⟨g_, fd, M, F, B⟩ := M
  refine met0 DC.cl M F B sc_Chart___sub__ (fun vs H Q E h => by obtain ⟨_, _, _, _, _, _, rfl, _⟩ := h; rfl) (fun cdv A outer s H vs Q E hr h => ?_)
  obtain ⟨p, q, g, g', κ, m, rfl, hp, hq, k1, k2, hm, qq⟩ := h
  have nd := sc_Chart___sub__.nd
  refine ⟨_, (pss_one (ps_ret (pe_mk M_Chart hr (by decide) rfl (pa_cons (pe_lc (own := [("days", 2), ("ages", 3), ("others", 4)]) (g := (gTup K 3 (gCons (gName 2) (gCons (gName 3) (gCons (gName 4) gNil))))) (by rfl) nd (pi_list (pe_mt Q_Chart_crossed hr (by decide) (pv 0) (pa_cons (pv 1) pa_nil))) (blkOk_by (own := [("days", 2), ("ages", 3), ("others", 4)]) (N := N_Chart___sub__) (sc := C8.fnScope s_Chart___sub__) (by decide +kernel)) (fun _ _ _ _ _ => (pg_tupK (K := K) rfl rfl (pgs_cons (pg_name (i := 2) nd rfl (Or.inl rfl) (Or.inr rfl)) (pgs_cons (pg_name (i := 3) nd rfl (Or.inl rfl) (Or.inr rfl)) (pgs_cons (pg_name (i := 4) nd rfl (Or.inl rfl) (Or.inr rfl)) pgs_nil))))) (fun _ _ _ _ _ => pts_nil) (fun _ _ _ _ _ => (pe_tup (pa_cons (pv 2) (pa_cons (pe_op (op_ownM D.sf Q_DaySet___sub__ hr (by decide)) (pv 3) (pv 4)) pa_nil))))) pa_nil)))), ?_⟩
  obtain ⟨_, _, _, _, hp1, _⟩ := id hp
  refine ⟨_, rfl, _, _, _, rfl, hp1, by rfl, _, rfl, p, q, g, g', κ, m, rfl, hp, hq, k1, k2, hm, fun l us R S H1 l1 nl e1 hT lR lS => ?_⟩
  have r1 := lR.few k1
  have r2 := lS.few k2
  have hmm : R.length * S.length ≤ 1000000 := Nat.le_trans (Nat.mul_le_mul (Nat.le_trans r1 hm) (Nat.le_trans r2 hm)) (by decide)
  have hcl : ∀ t, (crossR R S t).length ≤ 1000000 := fun t => Nat.le_trans (crossR_len R S t) hmm
  have hus : us.length ≤ 1000000 := by
    rw [hT.len, ← List.length_map (as := crossT R S) (cmb (fun a b => a && !b)), crossT_map]
    exact hcl _
  refine ⟨l, rfl, ⟨_, .of e1⟩, fun D1 nD1 => ?_⟩
  refine lc_eff (xs := us) walk_list gives_at nD1 (fun _ le => .of (le _ _ e1)) (crossT R S) hT.len.symm (le_szl _ (by omega)) (cmb (fun a b => a && !b)) (fun v s H => RowAt C H v s) (fun v s H H' l hD h => h.lst l hD) ?_ ?_
  · intro i x r Hx hx hr le
    obtain ⟨r', hr', t, a, b, c, rfl, ht, da, db, dc, oa, ob, oc⟩ := hT.get hx
    obtain rfl : r' = r := by rw [hr] at hr'; exact (Option.some.inj hr').symm
    refine ⟨_, ?_, fun K2 hK => ⟨t, _, rfl, .of (le _ _ ht), rfl, _, _, rfl, _, _, rfl, _, _, rfl, rfl, hK⟩, fun N hN => ?_⟩
    · rfl
    · have db' := db.le le
      have dc' := dc.le le
      obtain ⟨_, _, _, _, _, hb1⟩ := id db'
      obtain ⟨_, _, _, _, _, hc1⟩ := id dc'
      refine ⟨_, rfl, _, rfl, _, rfl, _, _, _, _, _, _, rfl, rfl, hb1, hc1, b, c, r'.2.1, r'.2.2, 12, 200, rfl, db', dc', ob, oc, fun nw H3 l3 dn nn => ?_⟩
      refine ⟨le_szl 2 (by decide), fun t3 nt3 => ?_⟩
      have l4 := Le.new (o := .tup [.ref a, .ref nw]) nt3
      exact hN _ _ (l3.trans l4) ⟨t3, a, nw, rfl, upd_self, ((da.le le).le l3).le l4, dn.le l4, oa, ob.bin oc fun a b => a && !b⟩
  · intro H2 ws le e hW
    rw [crossT_map] at hW
    exact make_chart e (RowsAt.of2 hW) (Tells.cross lR.t lS.t _) (hcl _) fun c H' l4 hc nc => qq c H' ((l1.trans le).trans l4) hc ((l1.trans le).none nc)
theorem q_cxor {C X : Addr} (T : Txt K mg) (D : DSC K mg C) (DC : DCC K mg X) (M : MetOf K X "__xor__" "Chart.__xor__" s_Chart___xor__ P_Chart___xor__) (Q_Chart_crossed : Met P w K mg base 8 X "crossed" (sp_crossed C X) []) (Q_DaySet___xor__ : Met P w K mg base 7 C "__xor__" (sp_bin C fun a b => a != b) []) (M_Chart : Mak P w K mg base 9 "Chart" X (sp_cinit C X) []) : Met P w K mg base 11 X "__xor__" (sp_cbin C X fun a b => a != b) [] := by
  obtain ⟨g_, fd, M, F, B⟩ := M
  refine met0 DC.cl M F B sc_Chart___xor__ (fun vs H Q E h => by obtain ⟨_, _, _, _, _, _, rfl, _⟩ := h; rfl) (fun cdv A outer s H vs Q E hr h => ?_)
  obtain ⟨p, q, g, g', κ, m, rfl, hp, hq, k1, k2, hm, qq⟩ := h
  have nd := sc_Chart___xor__.nd
  refine ⟨_, (pss_one (ps_ret (pe_mk M_Chart hr (by decide) rfl (pa_cons (pe_lc (own := [("days", 2), ("ages", 3), ("others", 4)]) (g := (gTup K 3 (gCons (gName 2) (gCons (gName 3) (gCons (gName 4) gNil))))) (by rfl) nd (pi_list (pe_mt Q_Chart_crossed hr (by decide) (pv 0) (pa_cons (pv 1) pa_nil))) (blkOk_by (own := [("days", 2), ("ages", 3), ("others", 4)]) (N := N_Chart___xor__) (sc := C8.fnScope s_Chart___xor__) (by decide +kernel)) (fun _ _ _ _ _ => (pg_tupK (K := K) rfl rfl (pgs_cons (pg_name (i := 2) nd rfl (Or.inl rfl) (Or.inr rfl)) (pgs_cons (pg_name (i := 3) nd rfl (Or.inl rfl) (Or.inr rfl)) (pgs_cons (pg_name (i := 4) nd rfl (Or.inl rfl) (Or.inr rfl)) pgs_nil))))) (fun _ _ _ _ _ => pts_nil) (fun _ _ _ _ _ => (pe_tup (pa_cons (pv 2) (pa_cons (pe_op (op_ownM D.sf Q_DaySet___xor__ hr (by decide)) (pv 3) (pv 4)) pa_nil))))) pa_nil)))), ?_⟩
  obtain ⟨_, _, _, _, hp1, _⟩ := id hp
  refine ⟨_, rfl, _, _, _, rfl, hp1, by rfl, _, rfl, p, q, g, g', κ, m, rfl, hp, hq, k1, k2, hm, fun l us R S H1 l1 nl e1 hT lR lS => ?_⟩
  have r1 := lR.few k1
  have r2 := lS.few k2
  have hmm : R.length * S.length ≤ 1000000 := Nat.le_trans (Nat.mul_le_mul (Nat.le_trans r1 hm) (Nat.le_trans r2 hm)) (by decide)
  have hcl : ∀ t, (crossR R S t).length ≤ 1000000 := fun t => Nat.le_trans (crossR_len R S t) hmm
  have hus : us.length ≤ 1000000 := by
    rw [hT.len, ← List.length_map (as := crossT R S) (cmb (fun a b => a != b)), crossT_map]
    exact hcl _
  refine ⟨l, rfl, ⟨_, .of e1⟩, fun D1 nD1 => ?_⟩
  refine lc_eff (xs := us) walk_list gives_at nD1 (fun _ le => .of (le _ _ e1)) (crossT R S) hT.len.symm (le_szl _ (by omega)) (cmb (fun a b => a != b)) (fun v s H => RowAt C H v s) (fun v s H H' l hD h => h.lst l hD) ?_ ?_
  · intro i x r Hx hx hr le
    obtain ⟨r', hr', t, a, b, c, rfl, ht, da, db, dc, oa, ob, oc⟩ := hT.get hx
    obtain rfl : r' = r := by rw [hr] at hr'; exact (Option.some.inj hr').symm
    refine ⟨_, ?_, fun K2 hK => ⟨t, _, rfl, .of (le _ _ ht), rfl, _, _, rfl, _, _, rfl, _, _, rfl, rfl, hK⟩, fun N hN => ?_⟩
    · rfl
    · have db' := db.le le
      have dc' := dc.le le
      obtain ⟨_, _, _, _, _, hb1⟩ := id db'
      obtain ⟨_, _, _, _, _, hc1⟩ := id dc'
      refine ⟨_, rfl, _, rfl, _, rfl, _, _, _, _, _, _, rfl, rfl, hb1, hc1, b, c, r'.2.1, r'.2.2, 12, 200, rfl, db', dc', ob, oc, fun nw H3 l3 dn nn => ?_⟩
      refine ⟨le_szl 2 (by decide), fun t3 nt3 => ?_⟩
      have l4 := Le.new (o := .tup [.ref a, .ref nw]) nt3
      exact hN _ _ (l3.trans l4) ⟨t3, a, nw, rfl, upd_self, ((da.le le).le l3).le l4, dn.le l4, oa, ob.bin oc fun a b => a != b⟩
  · intro H2 ws le e hW
    rw [crossT_map] at hW
    exact make_chart e (RowsAt.of2 hW) (Tells.cross lR.t lS.t _) (hcl _) fun c H' l4 hc nc => qq c H' ((l1.trans le).trans l4) hc ((l1.trans le).none nc)
end
end Od
end
section
set_option Elab.async false
set_option linter.all false
set_option maxRecDepth 100000
set_option maxHeartbeats 2000000
set_option autoImplicit false
/-! the law's pen -/
namespace Od
open PySem PySem.Spec PyProof.Rows L2 C8 Day
abbrev s__law_pen : Stmt := top 30
abbrev N__law_pen : List Str := ["_law_script"]
abbrev P__law_pen : List Str := ["_law_script"]
theorem sc__law_pen : FnScope N__law_pen P__law_pen (C8.fnScope s__law_pen) := fnScope_by (by decide +kernel)
abbrev s__law_draw : Stmt := top 31
abbrev N__law_draw : List Str := ["_law_pen_here", "_law_span", "_law_digit", "_law_turn", "_law_cell", "_law_mixed"]
abbrev P__law_draw : List Str := ["_law_pen_here", "_law_span"]
theorem sc__law_draw : FnScope N__law_draw P__law_draw (C8.fnScope s__law_draw) := fnScope_by (by decide +kernel)
def penV (dl : Addr) (t l : Int) : List (Key × V) := [(.inr "cells", .ref dl), (.inr "turn", .int t), (.inr "left", .int l)]
theorem pen_cells (dl : Addr) (t l : Int) : valV (penV dl t l) (.inr "cells") = some (.ref dl) := by rfl
theorem pen_turn (dl : Addr) (t l : Int) : valV (penV dl t l) (.inr "turn") = some (.int t) := by rfl
theorem pen_left (dl : Addr) (t l : Int) : valV (penV dl t l) (.inr "left") = some (.int l) := by rfl
theorem put_turn (dl : Addr) (t l x : Int) : putK (penV dl t l) (.inr "turn") (.int x) = penV dl x l := by rfl
theorem put_left (dl : Addr) (t l x : Int) : putK (penV dl t l) (.inr "left") (.int x) = penV dl t x := by rfl
/-- the pen at d: at most n numbers have been taken -/
def IsPen (H : Hp) (d dl : Addr) (n : Int) : Prop := ∃ (cells : List Int) (t l : Int), H d = some (.dK (penV dl t l)) ∧ H dl = some (.lst (cells.map V.int)) ∧ cells.length ≤ 63 ∧ 0 ≤ t ∧ t ≤ n
theorem IsPen.le {H H' : Hp} {d dl : Addr} {n : Int} (p : IsPen H d dl n) (l : Le H H') : IsPen H' d dl n := by
  obtain ⟨cells, t, x, h1, h2, h3⟩ := p
  exact ⟨cells, t, x, l _ _ h1, l _ _ h2, h3⟩
theorem IsPen.lx {H H' : Hp} {d dl D : Addr} {n : Int} (p : IsPen H d dl n) (l : LeX D H H') (h1 : d ≠ D) (h2 : dl ≠ D) : IsPen H' d dl n := by
  obtain ⟨cells, t, x, e1, e2, h3⟩ := p
  exact ⟨cells, t, x, l _ _ h1 e1, l _ _ h2 e2, h3⟩
theorem IsPen.mono {H : Hp} {d dl : Addr} {n m : Int} (p : IsPen H d dl n) (h : n ≤ m) : IsPen H d dl m := by
  obtain ⟨cells, t, x, h1, h2, h3, h4, h5⟩ := p
  exact ⟨cells, t, x, h1, h2, h3, h4, by omega⟩
theorem IsPen.dict {H : Hp} {d dl : Addr} {n : Int} (p : IsPen H d dl n) : ∃ kvs, H d = some (.dK kvs) := by
  obtain ⟨_, _, _, h, _⟩ := p
  exact ⟨_, h⟩
theorem sqL_le {K : PySem.W.Frag} {H H' : Hp} {a : Addr} {xs : List V} (h : SqL K H a xs) (l : Le H H') : SqL K H' a xs := by
  rcases h with (h | ⟨o, h⟩) | h
  · exact .inl (.inl (l _ _ h))
  · exact .inl (.inr ⟨o, l _ _ h⟩)
  · exact .inr h
theorem dget_of {H : Hp} {a : Addr} {kvs : List (Key × V)} {k : Key} {v : V} (e : H a = some (.dK kvs)) (h : valV kvs k = some v) : DGet H a (kV k) (some v) := h ▸ .k e
section
variable {P : Program} {w : World} {K : PySem.W.Frag} {mg : Str → Option Value} {base : Heap}
def sp_pen : Sp := fun vs H Q _ => ∃ (a : Addr) (xs : List Int), vs = [.ref a] ∧ SqL K H a (xs.map V.int) ∧ xs.length ≤ 63 ∧ ∀ d dl H', Le H H' → H d = none → H dl = none → IsPen H' d dl 0 → Q (.ref d) H'
theorem cut63 (xs : List Int) (lo hi : Option Int) : ∃ ys : List Int, cutV (xs.map V.int) lo hi = ys.map V.int ∧ ys.length ≤ xs.length := by
  have h := cutV_length (xs.map V.int) lo hi
  rw [List.length_map] at h
  unfold cutV at h ⊢
  rw [← List.map_drop, ← List.map_take] at h ⊢
  rw [List.length_map] at h
  exact ⟨_, rfl, h⟩
theorem c_pen (T : Txt K mg) (F : DefOf K mg "_law_pen" s__law_pen P__law_pen) : Cal P w K mg base 1 "_law_pen" (sp_pen (K := K)) [] := by
  obtain ⟨f, fd, F, B⟩ := F
  refine cal0 F B .nil sc__law_pen (fun vs H Q E h => by obtain ⟨_, _, rfl, _⟩ := h; rfl) (fun cdv A outer s H vs Q E hr h => ?_)
  obtain ⟨a, xs, rfl, hs, hx, q⟩ := h
  have nd := sc__law_pen.nd
  refine ⟨_, (pss_one (ps_ret (pe_disp (pps_cons pe_str (pe_callTy call_list_of (by rfl) T.b_list (by decide +kernel) (pa_cons (pe_slice sl_list (pv 0) po_none (po_some pe_int)) pa_nil)) (pps_cons pe_str pe_int (pps_cons pe_str pe_int pps_nil))) (by rfl) (by rfl) (by simp) (by decide)))), ?_⟩
  intro d hd
  have hs' : SqL K (upd H d (.dK [])) a (xs.map V.int) := sqL_le hs (Le.new hd)
  obtain ⟨ys, hy, hl⟩ := cut63 xs none (some 63)
  refine ⟨_, rfl, _, rfl, a, _, rfl, hs', fun p1 n1 => ?_⟩
  rw [hy]
  refine ⟨p1, _, rfl, .inl (.of upd_self), fun p2 n2 => ?_⟩
  have nd2 : p2 ≠ d := fun c => by
    rw [c] at n2
    have := (Le.new (o := .lst (ys.map V.int)) n1) d _ (upd_self (H := H) (p := d) (o := .dK []))
    rw [n2] at this
    cases this
  have ed : upd (upd (upd H d (.dK [])) p1 (.lst (ys.map V.int))) p2 (.lst (ys.map V.int)) d = some (.dK []) := ((Le.new n1).trans (Le.new n2)) d _ upd_self
  refine ⟨ed, penV p2 0 0, rfl, (show 3 ≤ 15 by decide), ?_⟩
  have lH : Le H (upd (upd (upd (upd H d (.dK [])) p1 (.lst (ys.map V.int))) p2 (.lst (ys.map V.int))) d (.dK (mergeK [] (penV p2 0 0)))) := (((Le.new hd).trans (Le.new n1)).trans (Le.new n2)).upd hd
  refine q d p2 _ lH hd (((Le.new (o := .dK []) hd).trans (Le.new (o := .lst (ys.map V.int)) n1)).none n2) ⟨ys, 0, 0, upd_self.trans rfl, by rw [upd_ne nd2, upd_self], by omega, by decide, by decide⟩
def sp_draw : Sp := fun vs H Q _ => ∃ (d dl : Addr) (span n : Int), vs = [.ref d, .int span] ∧ IsPen H d dl n ∧ n ≤ 1000000000 ∧ 0 < span ∧ span.natAbs.log2 < 9000 ∧ ∀ r H', LeX d H H' → IsPen H' d dl (n + 1) → 0 ≤ r → r < span → Q (.int r) H'
theorem c_draw (T : Txt K mg) (F : DefOf K mg "_law_draw" s__law_draw P__law_draw) : Cal P w K mg base 1 "_law_draw" sp_draw [] := by
  obtain ⟨f, fd, F, B⟩ := F
  refine cal0 F B .nil sc__law_draw (fun vs H Q E h => by obtain ⟨_, _, _, _, rfl, _⟩ := h; rfl) (fun cdv A outer s H vs Q E hr h => ?_)
  obtain ⟨d, dl, span, n, rfl, ⟨cells, t, l, e1, e2, h3, h4, h5⟩, n1, s0, s1, q⟩ := h
  have nd := sc__law_draw.nd
  have ndl : dl ≠ d := fun c => by rw [c, e1] at e2; cases e2
  refine ⟨_, (C8.pss_cut (ps_if (pt_cmpR op_gt (pe_dget (Room.u1 hr) (pv 0) pe_str (fun _ _ => rfl)) pe_int (nomark _)) (pss_cons (ps_set (i := 2) nd rfl (Or.inl rfl) (pe_op op_mod (pe_callTy call_int1 (by rfl) T.b_int (by decide +kernel) (pa_cons (pe_dget (Room.u1 hr) (pv 0) pe_str (fun _ _ => rfl)) pa_nil)) (pv 1)))
      (pss_cons (ps_dput (Room.u1 hr) (pv 0) pe_str (pe_op op_fdivW (pe_dget (Room.u1 hr) (pv 0) pe_str (fun _ _ => rfl)) (pv 1)) rfl)
      (pss_one (ps_ret (pv 2))))) pss_nil)
      (pss_cons (ps_set (i := 3) nd rfl (Or.inl rfl) (pe_dget (Room.u1 hr) (pv 0) pe_str (fun _ _ => rfl)))
      (pss_cons (ps_dput (Room.u1 hr) (pv 0) pe_str (pe_op op_add (pv 3) pe_int) rfl)
      (pss_cons (ps_set (i := 4) nd rfl (Or.inl rfl) (pe_op op_add (pe_op op_mul pe_int (pv 3)) pe_int))
      (C8.pss_cut (ps_if (pt_cmpR (op_neE hr.units) (pe_dget (Room.u1 hr) (pv 0) pe_str (fun _ _ => rfl)) (pe_lst pa_nil) (nomark _)) (pss_one (ps_set (i := 4) nd rfl (Or.inl rfl) (pe_ix ix_list (pe_dget (Room.u1 hr) (pv 0) pe_str (fun _ _ => rfl)) (pe_op op_mod (pe_callTy call_int1 (by rfl) T.b_int (by decide +kernel) (pa_cons (pv 3) pa_nil)) (pe_callB call_len_seq (by rfl) T.b_len (by decide +kernel) (pa_cons (pe_dget (Room.u1 hr) (pv 0) pe_str (fun _ _ => rfl)) pa_nil))) (fun _ _ => rfl)))) pss_nil)
      (C8.pss_cut (ps_if (PW.pt (pw_and (pt_cmpR op_lt (pv 3) (pe_callB call_len_seq (by rfl) T.b_len (by decide +kernel) (pa_cons (pe_dget (Room.u1 hr) (pv 0) pe_str (fun _ _ => rfl)) pa_nil)) (nomark _)) (pw_and1 (pt_cmpR op_ge (pe_callB call_abs (by rfl) T.b_abs (by decide +kernel) (pa_cons (pv 4) pa_nil)) (pe_op op_pow pe_int pe_int) (nomark _))))) (pss_cons (ps_dput (Room.u1 hr) (pv 0) pe_str (pe_op op_fdivW (pe_op op_sub (pe_callB call_abs (by rfl) T.b_abs (by decide +kernel) (pa_cons (pv 4) pa_nil)) (pe_op op_pow pe_int pe_int)) (pv 1)) rfl)
      (pss_one (ps_ret (pe_op op_mod (pe_callTy call_int1 (by rfl) T.b_int (by decide +kernel) (pa_cons (pe_op op_sub (pe_callB call_abs (by rfl) T.b_abs (by decide +kernel) (pa_cons (pv 4) pa_nil)) (pe_op op_pow pe_int pe_int)) pa_nil)) (pv 1))))) pss_nil)
      (pss_cons (ps_set (i := 5) nd rfl (Or.inl rfl) (pe_op op_mul (pe_op op_mod (pe_callTy call_int1 (by rfl) T.b_int (by decide +kernel) (pa_cons (pv 4) pa_nil)) pe_int) pe_int))
      (pss_cons (ps_set (i := 5) nd rfl (Or.inl rfl) (pe_op op_mod (pe_callTy call_int1 (by rfl) T.b_int (by decide +kernel) (pa_cons (pe_op op_add (pe_op op_add (pv 5) (pe_op op_mul (pv 3) (pe_op op_add (pe_op op_mul (pv 3) pe_int) pe_int))) pe_int) pa_nil)) pe_int))
      (pss_cons (ps_set (i := 5) nd rfl (Or.inl rfl) (pe_op op_mod (pe_callTy call_int1 (by rfl) T.b_int (by decide +kernel) (pa_cons (pe_op op_mul (pv 5) (pe_op op_add (pv 5) pe_int)) pa_nil)) pe_int))
      (pss_cons (ps_set (i := 5) nd rfl (Or.inl rfl) (pe_op op_mod (pe_callTy call_int1 (by rfl) T.b_int (by decide +kernel) (pa_cons (pe_op op_add (pe_op op_add (pe_op op_mul (pv 5) (pv 5)) (pe_op op_mul pe_int (pv 5))) (pe_op op_mul pe_int (pv 3))) pa_nil)) pe_int))
      (pss_one (ps_ret (pe_op op_mod (pe_callTy call_int1 (by rfl) T.b_int (by decide +kernel) (pa_cons (pe_op op_fdivW (pe_op op_mod (pe_callTy call_int1 (by rfl) T.b_int (by decide +kernel) (pa_cons (pe_op op_mul (pv 5) (pe_op op_add (pv 5) pe_int)) pa_nil)) pe_int) pe_int) pa_nil)) (pv 1)))))))))))))), ?_⟩
  have lx : ∀ (H0 : Hp) o, LeX d H H0 → LeX d H (upd H0 d o) := fun H0 o l => l.upd
  have m0 : ∀ x : Int, 0 ≤ x % span ∧ x % span < span := fun x => ⟨Int.emod_nonneg x (by omega), Int.emod_lt_of_pos x s0⟩
  refine ⟨fun σ' H' => H' = H ∧ σ' = [some (.ref d), some (.int span), none, none, none, none], ?_, ?_⟩
  rotate_left
  · rintro σ' H' ⟨eH, rfl⟩
    have eH := eH.symm
    subst eH
    refine ⟨_, rfl, d, _, rfl, dget_of e1 (pen_turn _ _ _), ?_⟩
    refine ⟨_, rfl, _, _, rfl, rfl, _, rfl, d, _, rfl, .k (k := .inr "turn") e1 (le_szl 4 (by decide)), ?_⟩
    have E1 : upd H d (.dK (putK (penV dl t l) (.inr "turn") (.int (t + 1)))) d = some (.dK (penV dl (t + 1) l)) := by rw [upd_self, put_turn]
    have E2 : upd H d (.dK (putK (penV dl t l) (.inr "turn") (.int (t + 1)))) dl = some (.lst (cells.map V.int)) := by rw [upd_ne ndl]; exact e2
    have L1 : LeX d H (upd H d (.dK (putK (penV dl t l) (.inr "turn") (.int (t + 1))))) := lx _ _ Le.refl.x
    generalize upd H d (.dK (putK (penV dl t l) (.inr "turn") (.int (t + 1)))) = H1 at *
    refine ⟨_, rfl, _, _, rfl, rfl, .inl ⟨by decide, by decide⟩, _, _, rfl, rfl, ?_⟩
    -- the cell
    refine ⟨fun σ' H' => Le H1 H' ∧ ∃ (cell : Int) (x : Option V), σ' = [some (.ref d), some (.int span), x, some (.int t), some (.int cell), none], ?_, ?_⟩
    · refine ⟨_, rfl, d, _, rfl, dget_of E1 (pen_cells _ _ _), Nat.zero_le _, fun q1 n1 => ?_⟩
      have E3 := (Le.new (o := .lst []) n1) _ _ E2
      have E4 := (Le.new (o := .lst []) n1) _ _ E1
      refine ⟨dl, q1, _, _, rfl, rfl, .of E3, .of upd_self, .inr rfl, _, rfl, ?_⟩
      refine ite2 (fun c => ?_) (fun c => ?_)
      · have hne : cells ≠ [] := fun e => by rw [e] at c; cases c
        have hpos := List.length_pos_iff.mpr hne
        have c0 : (0 : Int) < ((cells.map V.int).length : Int) := by rw [List.length_map]; omega
        have b1 := Int.emod_nonneg t (show ((cells.map V.int).length : Int) ≠ 0 by omega)
        have b2 := Int.emod_lt_of_pos t c0
        have hi : (t % ((cells.map V.int).length : Int)).toNat < cells.length := by rw [List.length_map] at *; omega
        refine ⟨_, rfl, d, _, rfl, dget_of E4 (pen_cells _ _ _), _, rfl, .inl ⟨_, rfl, _, rfl, d, _, rfl, dget_of E4 (pen_cells _ _ _), _, _, rfl, .inl (.of E3), _, _, rfl, rfl, c0, ?_⟩⟩
        refine ⟨_, _, _, .int cells[(t % ((cells.map V.int).length : Int)).toNat], rfl, rfl, .of E3, ?_, Le.new n1, _, _, rfl⟩
        have := atI_nat (xs := cells.map V.int) (j := (t % ((cells.map V.int).length : Int)).toNat) (v := .int cells[(t % ((cells.map V.int).length : Int)).toNat]) (by rw [List.getElem?_map, List.getElem?_eq_getElem hi]; rfl)
        rwa [show (((t % ((cells.map V.int).length : Int)).toNat : Nat) : Int) = t % ((cells.map V.int).length : Int) by omega] at this
      · exact ⟨Le.new n1, _, _, rfl⟩
    rintro σ' H2 ⟨le, cell, x, rfl⟩
    have E5 := le _ _ E1
    have E6 := le _ _ E2
    have L2 : LeX d H H2 := fun a o h1 h2 => le _ _ (L1 a o h1 h2)
    have plain : IsPen H2 d dl (n + 1) := ⟨cells, t + 1, l, E5, E6, h3, by omega, by omega⟩
    refine ⟨fun σ' H' => H' = H2 ∧ σ' = [some (.ref d), some (.int span), x, some (.int t), some (.int cell), none], ?_, ?_⟩
    · refine ⟨_, rfl, _, rfl, d, _, rfl, dget_of E5 (pen_cells _ _ _), _, _, rfl, .inl (.of E6), _, _, rfl, rfl, _, rfl, ?_⟩
      refine ite2 (fun c => ?_) (fun c => ⟨rfl, rfl⟩)
      refine ⟨_, rfl, _, rfl, _, _, rfl, rfl, ⟨by decide, by decide, by decide⟩, _, _, rfl, rfl, _, rfl, ?_⟩
      refine ite2 (fun c => ?_) (fun c => ⟨rfl, rfl⟩)
      refine ⟨_, rfl, _, rfl, _, _, rfl, rfl, ⟨by decide, by decide, by decide⟩, _, _, rfl, rfl, _, rfl, _, _, rfl, rfl, ⟨s0, s1⟩, _, rfl, d, _, rfl, .k (k := .inr "left") E5 (le_szl 4 (by decide)), ?_⟩
      refine ⟨_, rfl, _, rfl, _, _, rfl, rfl, ⟨by decide, by decide, by decide⟩, _, _, rfl, rfl, .inl ⟨_, rfl, _, rfl, _, _, rfl, rfl, s0, ?_⟩⟩
      refine q _ _ (lx _ _ L2) ?_ (m0 _).1 (m0 _).2
      refine ⟨cells, t + 1, _, (upd_self).trans rfl, by rw [upd_ne ndl]; exact E6, h3, by omega, by omega⟩
    rintro σ' H3 ⟨rfl, rfl⟩
    have p1 : ∀ a b : Int, 0 < b → 0 ≤ a % b ∧ a % b < b := fun a b hb => ⟨Int.emod_nonneg a (by omega), Int.emod_lt_of_pos a hb⟩
    refine ⟨_, rfl, .inl ⟨_, rfl, _, _, rfl, rfl, (show (0 : Int) < 4294967087 by decide), _, _, rfl, rfl, .inr ⟨by decide, by decide⟩, ?_⟩⟩
    refine ⟨_, rfl, _, rfl, _, rfl, _, _, rfl, rfl, .inr ⟨by decide, by decide⟩, _, _, rfl, rfl, _, _, rfl, rfl, .inl ⟨by omega, by omega⟩, _, _, rfl, rfl, _, _, rfl, rfl, .inl ⟨_, rfl, _, _, rfl, rfl, (show (0 : Int) < 4294967029 by decide), ?_⟩⟩
    refine ⟨_, rfl, _, rfl, _, _, rfl, rfl, _, _, rfl, rfl, .inl ?_, .inl ⟨_, rfl, _, _, rfl, rfl, (show (0 : Int) < 4294966997 by decide), ?_⟩⟩
    · have := p1 (cell % 4294967087 * 48611 + t * (t * 27919 + 10601) + 41) 4294967029 (by decide)
      exact ⟨by omega, by omega⟩
    generalize hx : (_ : Int) * (_ + 75013) = xx
    have b1 := p1 xx 4294966997 (by decide)
    refine ⟨_, rfl, _, rfl, _, _, rfl, rfl, .inl ⟨by omega, by omega⟩, _, rfl, _, _, rfl, rfl, .inl ⟨by decide, by decide⟩, _, _, rfl, rfl, _, rfl, _, _, rfl, rfl, .inl ⟨by decide, by decide⟩, _, _, rfl, rfl, .inl ⟨_, rfl, _, _, rfl, rfl, (show (0 : Int) < 4294966981 by decide), ?_⟩⟩
    generalize hy : (_ : Int) + 19 * t = yy
    have b2 := p1 yy 4294966981 (by decide)
    refine ⟨_, rfl, _, rfl, _, _, rfl, rfl, _, _, rfl, rfl, .inl ⟨by omega, by omega⟩, .inl ⟨_, rfl, _, _, rfl, rfl, (show (0 : Int) < 4294966943 by decide), _, _, rfl, rfl, ⟨by decide, by decide⟩, .inl ⟨_, rfl, _, rfl, _, _, rfl, rfl, s0, ?_⟩⟩⟩
    exact q _ _ L2 plain (m0 _).1 (m0 _).2
  refine ⟨_, rfl, d, _, rfl, dget_of e1 (pen_left _ _ _), _, _, rfl, rfl, _, rfl, ?_⟩
  refine ite2 (fun c => ?_) (fun c => ⟨rfl, rfl⟩)
  · refine ⟨_, rfl, d, _, rfl, dget_of e1 (pen_left _ _ _), .inl ⟨_, rfl, _, rfl, _, _, rfl, rfl, s0, ?_⟩⟩
    refine ⟨_, rfl, d, _, rfl, dget_of e1 (pen_left _ _ _), _, rfl, _, _, rfl, rfl, ⟨s0, s1⟩, _, rfl, d, _, rfl, .k (k := .inr "left") e1 (le_szl 4 (by decide)), ?_⟩
    refine ⟨_, rfl, q _ _ (lx _ _ Le.refl.x) ?_ (m0 l).1 (m0 l).2⟩
    refine ⟨cells, t, l / span, ?_, by rw [upd_ne ndl]; exact e2, h3, h4, by omega⟩
    rw [upd_self]
    rfl
end
end Od
namespace Od
open PySem PySem.Spec PyProof.Rows L2 C8 Day
/-- all but two stands -/
def LeXX (d D : Addr) (H H' : Hp) : Prop := ∀ a o, a ≠ d → a ≠ D → H a = some o → H' a = some o
theorem LeX.tr {D : Addr} {H H1 H2 : Hp} (a : LeX D H H1) (b : LeX D H1 H2) : LeX D H H2 := fun x o c h => b x o c (a x o c h)
/-- a comprehension whose turns take numbers from the pen: at most c a turn -/
theorem lc_pen {J : It} {n : Nat} {G : Hp → Prop} {Y : Nat → Hp → V → Hp → Prop} (w : Walk J n G Y) {g : TG} {tt : TT} {te : TE} {vs : List Nat} {σ : L2.St} {H1 : Hp} {D d dl : Addr} {N0 c : Int} {Qd : Hp → Prop} (hD : H1 D = none) (hp : IsPen H1 d dl N0) (hn : n ≤ sizeLine)
    (hG : ∀ H, LeX d H1 H → G H) (hY : ∀ i H x H', Y i H x H' → Le H H') (R : Option V → Hp → Prop) (hR : ∀ r H H', LeXX d D H H' → (∃ acc, H D = some (.lst acc)) → (∃ kvs, H d = some (.dK kvs)) → R r H → R r H')
    (hs : ∀ i x H H', i < n → LeX d H1 H → (∃ acc, H D = some (.lst acc)) → IsPen H' d dl (N0 + (i : Nat) * c) → Y i H x H' → ∀ N : Option V → Hp → Prop, (∀ r H2, LeX d H' H2 → IsPen H2 d dl (N0 + (i : Nat) * c + c) → R r H2 → N r H2) → g x (wipe σ vs) H' fun σ2 H2 => wipe σ2 vs = wipe σ vs ∧ tt σ2 H2 fun b H3 => if b = true then te σ2 H3 fun y H4 => N (some y) H4 else N none H3)
    (hd : ∀ H (rs : List (Option V)), LeX d H1 H → IsPen H d dl (N0 + (n : Nat) * c) → rs.length = n → (∀ r ∈ rs, R r H) → H D = some (.lst (rs.filterMap id)) → Qd H) :
    ∃ W : Nat → Nat → Hp → Prop, (∃ m, W 0 m (upd H1 D (.lst []))) ∧ ∀ i m H, W i m H →
      (J.stop i H ∧ Qd H) ∨ (J.go i H ∧ ∃ Nx : Hp → Prop, (∀ H', Nx H' → ∃ m', m' < m ∧ W (i + 1) m' H') ∧ ∀ x H', J.yld i H x H' → g x (wipe σ vs) H' fun σ2 H2 => wipe σ2 vs = wipe σ vs ∧ tt σ2 H2 fun b H3 =>
        if b = true then te σ2 H3 fun y H4 => ∃ acc, H4 D = some (.lst acc) ∧ acc.length < sizeLine ∧ Nx (upd H4 D (.lst (acc ++ [y]))) else Nx H3) := by
  have hdD : d ≠ D := fun e => by
    obtain ⟨_, _, _, h1, _⟩ := hp
    rw [e, hD] at h1; cases h1
  have hlD : dl ≠ D := fun e => by
    obtain ⟨_, _, _, _, h1, _⟩ := hp
    rw [e, hD] at h1; cases h1
  have one : ∀ i : Nat, N0 + (i : Nat) * c + c = N0 + ((i + 1 : Nat) : Int) * c := fun i => by
    rw [Int.natCast_add, Int.add_mul]; simp; omega
  have penK : ∀ {H : Hp} {m : Int}, IsPen H d dl m → ∃ kvs, H d = some (.dK kvs) := fun h => by
    obtain ⟨_, _, _, h1, _⟩ := h
    exact ⟨_, h1⟩
  refine lc_it w (fun i H => LeX d H1 H ∧ IsPen H d dl (N0 + (i : Nat) * c) ∧ ∃ rs : List (Option V), rs.length = i ∧ (∀ r ∈ rs, R r H) ∧ H D = some (.lst (rs.filterMap id))) ⟨(Le.new hD).x, (hp.le (Le.new hD)).mono (by simp), [], rfl, fun r h => by simp at h, upd_self⟩ (fun i H _ p => hG H p.1) ?_ ?_
  · rintro i x H H' hi ⟨lx, pn, rs, hl, hr, e⟩ hy
    have l2 := hY i H x H' hy
    have eD : H' D = some (.lst (rs.filterMap id)) := l2 D _ e
    have lenf : (rs.filterMap id).length ≤ i := by rw [← hl]; exact List.length_filterMap_le _ _
    have st := hs i x H H' hi lx ⟨_, e⟩ (pn.le l2) hy (fun r H4 => match r with
      | some y => ∃ acc, H4 D = some (.lst acc) ∧ acc.length < sizeLine ∧ (LeX d H1 (upd H4 D (.lst (acc ++ [y]))) ∧ IsPen (upd H4 D (.lst (acc ++ [y]))) d dl (N0 + ((i + 1 : Nat) : Int) * c) ∧ ∃ rs' : List (Option V), rs'.length = i + 1 ∧ (∀ r ∈ rs', R r (upd H4 D (.lst (acc ++ [y])))) ∧ upd H4 D (.lst (acc ++ [y])) D = some (.lst (rs'.filterMap id)))
      | none => LeX d H1 H4 ∧ IsPen H4 d dl (N0 + ((i + 1 : Nat) : Int) * c) ∧ ∃ rs' : List (Option V), rs'.length = i + 1 ∧ (∀ r ∈ rs', R r H4) ∧ H4 D = some (.lst (rs'.filterMap id))) ?_
    · exact st
    · intro r H2 l3 p3 hr2
      have eD2 := l3 D _ hdD.symm eD
      have k1 : LeX d H1 H2 := (lx.tr l2.x).tr l3
      have old : ∀ q ∈ rs, R q H2 := fun q hq => hR q H H2 (fun a o h1 _ h => (l2.x.tr l3) a o h1 h) ⟨_, e⟩ (penK pn) (hr q hq)
      rw [one] at p3
      cases r with
      | none =>
        refine ⟨k1, p3, rs ++ [none], by simp [hl], fun q hq => ?_, by simpa using eD2⟩
        rcases List.mem_append.mp hq with h | h
        · exact old q h
        · rw [List.mem_singleton.mp h]; exact hr2
      | some y =>
        have lxx : ∀ o, LeXX d D H2 (upd H2 D o) := fun o a u _ h2 h => by rw [upd_ne h2]; exact h
        refine ⟨_, eD2, by omega, fun a o h1 h => ?_, p3.lx (Le.refl.x.upd) hdD hlD, rs ++ [some y], by simp [hl], fun q hq => ?_, by rw [upd_self]; simp⟩
        · by_cases c : a = D
          · subst c; rw [hD] at h; cases h
          · rw [upd_ne c]; exact k1 a o h1 h
        · rcases List.mem_append.mp hq with h | h
          · exact hR q H2 _ (lxx _) ⟨_, eD2⟩ (penK p3) (old q h)
          · rw [List.mem_singleton.mp h]; exact hR _ H2 _ (lxx _) ⟨_, eD2⟩ (penK p3) hr2
  · rintro H ⟨lx, pn, rs, hl, hr, e⟩
    exact hd H rs lx pn hl hr e
theorem lg9 : ∀ x : Int, 0 < x → x < 100000000 → x.natAbs.log2 < 9000 := fun x h0 h => by
  have h1 : x.natAbs ≠ 0 := by omega
  have := (Nat.log2_lt h1).mpr (show x.natAbs < 2 ^ 27 by omega)
  omega
theorem IsPen.ne {H : Hp} {d dl p : Addr} {n : Int} (pn : IsPen H d dl n) {xs : List V} (h : H p = some (.lst xs)) : p ≠ d := fun c => by
  obtain ⟨kvs, e⟩ := pn.dict
  rw [c, e] at h
  cases h
theorem at_mem {α : Type} {xs : List α} {r : Int} (h0 : 0 ≤ r) (h1 : r < xs.length) : ∃ v ∈ xs, atI xs r = some v := by
  have h2 : r.toNat < xs.length := by omega
  refine ⟨xs[r.toNat], List.getElem_mem h2, ?_⟩
  have := atI_nat (xs := xs) (j := r.toNat) (v := xs[r.toNat]) (List.getElem?_eq_getElem h2)
  rwa [show ((r.toNat : Nat) : Int) = r by omega] at this
end Od
end
section
set_option Elab.async false
set_option linter.all false
set_option maxRecDepth 100000
set_option maxHeartbeats 2000000
set_option autoImplicit false
namespace Od
open PySem PySem.Spec PyProof.Rows L2 C8 Day
abbrev s_is_row : Stmt := top 15
abbrev N_is_row : List Str := ["word", "sign"]
abbrev P_is_row : List Str := ["word"]
theorem sc_is_row : FnScope N_is_row P_is_row (C8.fnScope s_is_row) := fnScope_by (by decide +kernel)
abbrev s_is_count : Stmt := top 6
abbrev N_is_count : List Str := ["word", "sign"]
abbrev P_is_count : List Str := ["word"]
theorem sc_is_count : FnScope N_is_count P_is_count (C8.fnScope s_is_count) := fnScope_by (by decide +kernel)
abbrev s_is_number : Stmt := top 7
abbrev N_is_number : List Str := ["word"]
abbrev P_is_number : List Str := ["word"]
theorem sc_is_number : FnScope N_is_number P_is_number (C8.fnScope s_is_number) := fnScope_by (by decide +kernel)
theorem fm_str {α : Type} (z : Str) (f : Nat → α) : ((List.range z.cps.size).filterMap fun i => (z.cps[i]?).map f) = z.cps.toList.map f := by
  have h := fm_get z.cps.toList
  rw [Array.length_toList] at h
  have h2 := congrArg (List.map f) h
  rw [List.map_filterMap] at h2
  rw [← h2]
  simp only [Array.getElem?_toList]
theorem cps_len (z : Str) : z.cps.toList.length = z.length := by simp [Str.length]
theorem cutS_to (z : Str) (i : Nat) : (cutS z none (some (i : Int))).cps.toList = z.cps.toList.take i := by
  have h := cps_len z
  show ((z.cps.toList.drop (HT.sIx z.length 0 none)).take (HT.sIx z.length z.length (some (i : Int)) - HT.sIx z.length 0 none)) = _
  rw [HT.sIx_nat, HT.sIx_none, List.drop_zero, Nat.sub_zero]
  by_cases c : i ≤ z.length
  · rw [Nat.min_eq_left c]
  · rw [Nat.min_eq_right (by omega), List.take_of_length_le (by omega), List.take_of_length_le (by omega)]
theorem cutS_from (z : Str) (i : Nat) : (cutS z (some (i : Int)) none).cps.toList = z.cps.toList.drop i := by
  have h := cps_len z
  show ((z.cps.toList.drop (HT.sIx z.length 0 (some (i : Int)))).take (HT.sIx z.length z.length none - HT.sIx z.length 0 (some (i : Int)))) = _
  rw [HT.sIx_nat, HT.sIx_none]
  by_cases c : i ≤ z.length
  · rw [Nat.min_eq_left c, List.take_of_length_le (by rw [List.length_drop]; omega)]
  · rw [Nat.min_eq_right (by omega), List.drop_eq_nil_of_le (by omega), List.drop_eq_nil_of_le (by omega)]
    simp
def IsRowL (l : List Nat) : Prop := l ≠ [] ∧ ∀ c ∈ l, c = 48 ∨ c = 49
def IsCnt (l : List Nat) : Prop := l ≠ [] ∧ (∀ c ∈ l, 48 ≤ c ∧ c ≤ 57) ∧ (l = [48] ∨ l.head? ≠ some 48)
def IsNum (l : List Nat) : Prop := (∃ r, l = 45 :: r ∧ IsCnt r ∧ r ≠ [48]) ∨ IsCnt l
theorem tl_nil : (("" : Str)).cps.toList = [] := by decide +kernel
theorem str_dec (z : Str) (l : List Nat) (y : Str) (h : y.cps.toList = l) : decide (V.str z = V.str y) = decide (z.cps.toList = l) := by
  by_cases c : z.cps.toList = l
  · rw [decide_eq_true c, decide_eq_true]
    rw [TL.ext_tl (x := z) (y := y) (c.trans h.symm)]
  · rw [decide_eq_false c, decide_eq_false]
    intro e
    injection e with e
    exact c (by rw [e, h])
section
variable {P : Program} {w : World} {K : PySem.W.Frag} {mg : Str → Option Value} {base : Heap}
def sp_isL (R : List Nat → Prop) : Sp := fun vs H Q _ => ∃ z : Str, vs = [.str z] ∧ z.length ≤ 1000000 ∧ ∀ b H', Le H H' → (b = true ↔ R z.cps.toList) → Q (.bl b) H'
theorem c_is_row (T : Txt K mg) (F : DefOf K mg "is_row" s_is_row P_is_row) : Cal P w K mg base 1 "is_row" (sp_isL IsRowL) [] := by
  obtain ⟨f, fd, F, B⟩ := F
  refine cal0 F B .nil sc_is_row (fun vs H Q E h => by obtain ⟨_, rfl, _⟩ := h; rfl) (fun cdv A outer s H vs Q E hr h => ?_)
  obtain ⟨z, rfl, hz, q⟩ := h
  have nd := sc_is_row.nd
  refine ⟨_, (pss_one (ps_ret (pe_and (pe_cmpR op_ne (pv 0) pe_str (nomark _)) (pe_one (pe_callB (cr_all rfl) (by rfl) T.b_all (by decide +kernel) (pa_cons (pe_lc (own := [("sign", 1)]) (g := gName 1) (by rfl) nd (pi_str (pv 0)) (blkOk_by (own := [("sign", 1)]) (N := N_is_row) (sc := C8.fnScope s_is_row) (by decide +kernel)) (fun _ _ _ _ _ => pg_name (i := 1) nd rfl (Or.inl rfl)) (fun _ _ _ _ _ => pts_nil) (fun _ _ _ _ _ => (pe_cmpR op_in_sign (pv 1) pe_str (by rfl)))) pa_nil)))))), ?_⟩
  refine ⟨_, rfl, rfl, _, rfl, ?_⟩
  show if (!decide (V.str z = V.str ("" : Str))) = true then _ else _
  rw [str_dec z [] "" tl_nil]
  refine ite2 (fun c => ?_) (fun c => ?_)
  · have hne : z.cps.toList ≠ [] := fun e => by rw [decide_eq_true e] at c; cases c
    refine ⟨_, rfl, _, rfl, fun d hd => ?_⟩
    refine lc_pure walk_str hd ?_ (fun _ _ => trivial) (fun _ _ _ _ h => by rw [h.1]; exact .refl) (fun i => (z.cps[i]?).map fun c => V.bl (decide (c = 48 ∨ c = 49))) ?_ ?_
    · exact le_szl _ (show z.length ≤ 16777216 by omega)
    · rintro i x H1 H2 hi le ⟨rfl, c, hc, rfl⟩ N hN
      have := hN H2 .refl
      rw [hc] at this
      refine ⟨rfl, _, rfl, c, _, rfl, rfl, ?_⟩
      have e : decide (c ∈ (("01" : Str)).cps.toList) = decide (c = 48 ∨ c = 49) := by
        rw [show (("01" : Str)).cps.toList = [48, 49] by decide +kernel]
        simp
      rw [e]
      exact this
    · intro H1 le e
      rw [fm_str z fun c => V.bl (decide (c = 48 ∨ c = 49))] at e
      refine ⟨d, z.cps.toList.map fun c => decide (c = 48 ∨ c = 49), rfl, .of (by rw [e, List.map_map]; rfl), q _ _ le ?_⟩
      rw [List.all_map, List.all_eq_true]
      constructor
      · intro h
        exact ⟨hne, fun c hc => of_decide_eq_true (h c hc)⟩
      · intro h c hc
        exact decide_eq_true (h.2 c hc)
  · have he : z.cps.toList = [] := by
      cases h : z.cps.toList with
      | nil => rfl
      | cons a r => rw [h] at c; exact absurd rfl c
    refine q _ _ .refl ⟨fun h => (by cases h), fun h => absurd he h.1⟩
theorem c_is_count (T : Txt K mg) (G_DIGITS : ∃ u, mg "DIGITS" = some u ∧ L2.RelV (.str "0123456789") u) (F : DefOf K mg "is_count" s_is_count P_is_count) : Cal P w K mg base 1 "is_count" (sp_isL IsCnt) [] := by
  obtain ⟨f, fd, F, B⟩ := F
  refine cal0 F B .nil sc_is_count (fun vs H Q E h => by obtain ⟨_, rfl, _⟩ := h; rfl) (fun cdv A outer s H vs Q E hr h => ?_)
  obtain ⟨z, rfl, hz, q⟩ := h
  have nd := sc_is_count.nd
  refine ⟨_, (pss_cons (ps_if (PW.pt (pw_or (pt_cmpR op_eq (pv 0) pe_str (nomark _)) (pw_or1 (pt_not (pt_val (pe_callB (cr_all rfl) (by rfl) T.b_all (by decide +kernel) (pa_cons (pe_lc (own := [("sign", 1)]) (g := gName 1) (by rfl) nd (pi_str (pv 0)) (blkOk_by (own := [("sign", 1)]) (N := N_is_count) (sc := C8.fnScope s_is_count) (by decide +kernel)) (fun _ _ _ _ _ => pg_name (i := 1) nd rfl (Or.inl rfl)) (fun _ _ _ _ _ => pts_nil) (fun _ _ _ _ _ => (pe_cmpR op_in_sign (pv 1) (pe_gc rfl G_DIGITS) (by rfl)))) pa_nil))))))) (pss_one (ps_ret pe_bl)) pss_nil)
      (pss_one (ps_ret (pe_or (pe_cmpR op_eq (pv 0) pe_str (nomark _)) (pe_one (pe_cmpR op_ne (pe_ix ix_str (pv 0) pe_int (fun _ _ => rfl)) pe_str (nomark _))))))), ?_⟩
  have dig : (("0123456789" : Str)).cps.toList = [48, 49, 50, 51, 52, 53, 54, 55, 56, 57] := by decide +kernel
  have hz1 : z.length ≤ sizeLine := le_szl _ (by omega)
  refine ⟨_, rfl, rfl, _, rfl, ?_⟩
  show if decide (V.str z = V.str ("" : Str)) = true then _ else _
  rw [str_dec z [] "" tl_nil]
  refine ite2 (fun c => ?_) (fun c => ?_)
  · have he : z.cps.toList = [] := of_decide_eq_true c
    exact q _ _ .refl ⟨fun h => (by cases h), fun h => absurd he h.1⟩
  have hne : z.cps.toList ≠ [] := fun e => c (decide_eq_true e)
  refine ⟨_, rfl, _, rfl, fun d hd => ?_⟩
  refine lc_pure walk_str hd ?_ (fun _ _ => trivial) (fun _ _ _ _ h => by rw [h.1]; exact .refl) (fun i => (z.cps[i]?).map fun c => V.bl (decide (48 ≤ c ∧ c ≤ 57))) ?_ ?_
  · exact le_szl _ (show z.length ≤ 16777216 by omega)
  · rintro i x H1 H2 hi le ⟨rfl, c, hc, rfl⟩ N hN
    have := hN H2 .refl
    rw [hc] at this
    refine ⟨rfl, _, rfl, c, _, rfl, rfl, ?_⟩
    have e : decide (c ∈ (("0123456789" : Str)).cps.toList) = decide (48 ≤ c ∧ c ≤ 57) := by
      rw [dig, decide_eq_decide]
      simp
      omega
    rw [e]
    exact this
  · intro H1 le e
    rw [fm_str z fun c => V.bl (decide (48 ≤ c ∧ c ≤ 57))] at e
    refine ⟨d, z.cps.toList.map fun c => decide (48 ≤ c ∧ c ≤ 57), rfl, .of (by rw [e, List.map_map]; rfl), _, rfl, ?_⟩
    have hall : (z.cps.toList.map fun c => decide (48 ≤ c ∧ c ≤ 57)).all id = true ↔ ∀ c ∈ z.cps.toList, 48 ≤ c ∧ c ≤ 57 := by
      rw [List.all_map, List.all_eq_true]
      exact ⟨fun h c hc => of_decide_eq_true (h c hc), fun h c hc => decide_eq_true (h c hc)⟩
    refine ite2 (fun c2 => ?_) (fun c2 => ?_)
    · refine q _ _ le ⟨fun h => (by cases h), fun h => ?_⟩
      rw [hall.mpr h.2.1] at c2
      cases c2
    have hd2 : ∀ c ∈ z.cps.toList, 48 ≤ c ∧ c ≤ 57 := hall.mp (by
      cases h : (z.cps.toList.map fun c => decide (48 ≤ c ∧ c ≤ 57)).all id with
      | true => rfl
      | false => rw [h] at c2; exact absurd rfl c2)
    refine ⟨_, rfl, rfl, _, rfl, ?_⟩
    show if decide (V.str z = V.str ("0" : Str)) = true then _ else _
    rw [str_dec z [48] "0" (by decide +kernel)]
    refine ite2 (fun c3 => ?_) (fun c3 => ?_)
    · exact q _ _ le ⟨fun _ => ⟨hne, hd2, .inl (of_decide_eq_true c3)⟩, fun _ => rfl⟩
    · cases hl : z.cps.toList with
      | nil => exact absurd hl hne
      | cons a r =>
        refine ⟨_, rfl, z, 0, a, rfl, rfl, hz1, by rw [hl]; exact atI_nat (j := 0) rfl, rfl, q _ _ le ?_⟩
        have e2 : decide (V.str ⟨#[a]⟩ = V.str ("0" : Str)) = decide (a = 48) := by
          rw [str_dec _ [48] "0" (by decide +kernel), decide_eq_decide]
          show [a] = [48] ↔ _
          simp
        show (!decide (V.str ⟨#[a]⟩ = V.str ("0" : Str))) = true ↔ _
        rw [e2]
        constructor
        · intro h
          refine ⟨hne, hd2, .inr ?_⟩
          rw [hl]
          intro e
          have : a = 48 := Option.some.inj e
          rw [decide_eq_true this] at h
          cases h
        · rintro ⟨_, _, h | h⟩
          · exact absurd (decide_eq_true h) c3
          · rw [hl] at h
            have : a ≠ 48 := fun e => h (by rw [e]; rfl)
            rw [decide_eq_false this]
            rfl
theorem c_is_number (T : Txt K mg) (F : DefOf K mg "is_number" s_is_number P_is_number) (C_is_count : Cal P w K mg base 1 "is_count" (sp_isL IsCnt) []) : Cal P w K mg base 2 "is_number" (sp_isL IsNum) [] := by
  obtain ⟨f, fd, F, B⟩ := F
  refine cal0 F B .nil sc_is_number (fun vs H Q E h => by obtain ⟨_, rfl, _⟩ := h; rfl) (fun cdv A outer s H vs Q E hr h => ?_)
  obtain ⟨z, rfl, hz, q⟩ := h
  have nd := sc_is_number.nd
  refine ⟨_, (pss_cons (ps_if (pt_cmpR op_eq (pe_slice sl_str (pv 0) po_none (po_some pe_int)) pe_str (nomark _)) (pss_one (ps_ret (pe_and (pe_c C_is_count hr (by decide) rfl (pa_cons (pe_slice sl_str (pv 0) (po_some pe_int) po_none) pa_nil)) (pe_one (pe_cmpR op_ne (pv 0) pe_str (nomark _)))))) pss_nil)
      (pss_one (ps_ret (pe_c C_is_count hr (by decide) rfl (pa_cons (pv 0) pa_nil))))), ?_⟩
  have hz1 : z.length ≤ sizeLine := le_szl _ (by omega)
  have c1 : (cutS z none (some 1)).cps.toList = z.cps.toList.take 1 := cutS_to z 1
  have c2 : (cutS z (some 1) none).cps.toList = z.cps.toList.drop 1 := cutS_from z 1
  refine ⟨_, rfl, _, rfl, _, rfl, hz1, rfl, _, rfl, ?_⟩
  show if decide (V.str (cutS z none (some 1)) = V.str ("-" : Str)) = true then _ else _
  rw [str_dec _ [45] "-" tl_dash, c1]
  refine ite2 (fun c => ?_) (fun c => ?_)
  · have h1 : z.cps.toList.take 1 = [45] := of_decide_eq_true c
    obtain ⟨r, hr⟩ : ∃ r, z.cps.toList = 45 :: r := by
      cases h : z.cps.toList with
      | nil => rw [h] at h1; cases h1
      | cons a r =>
        rw [h] at h1
        have : a = 45 := by simpa using h1
        exact ⟨r, by rw [this]⟩
    have hlen : (cutS z (some 1) none).length ≤ 1000000 := by
      have : (cutS z (some 1) none).length = (cutS z (some 1) none).cps.toList.length := by simp [Str.length]
      rw [this, c2, List.length_drop]
      have : z.length = z.cps.toList.length := by simp [Str.length]
      omega
    refine ⟨_, rfl, _, rfl, _, rfl, hz1, _, rfl, hlen, fun b H1 l1 hb => ?_⟩
    rw [c2, hr] at hb
    have hb : b = true ↔ IsCnt r := hb
    refine ⟨_, rfl, ?_⟩
    refine ite2 (fun c => ?_) (fun c => ?_)
    · refine ⟨_, rfl, rfl, q _ _ l1 ?_⟩
      show (!decide (V.str z = V.str ("-0" : Str))) = true ↔ _
      rw [str_dec z [45, 48] "-0" (by decide +kernel), hr]
      constructor
      · intro h
        refine .inl ⟨r, rfl, hb.mp c, fun e => ?_⟩
        rw [e] at h
        cases h
      · rintro (⟨r', e, _, h⟩ | h)
        · have : r = r' := by injection e
          subst this
          have : ¬ (45 :: r = [45, 48]) := fun e => h (by injection e)
          rw [decide_eq_false this]
          rfl
        · have := h.2.1 45 List.mem_cons_self
          omega
    · refine q _ _ l1 ⟨fun h => (by cases h), fun h => ?_⟩
      rw [hr] at h
      rcases h with ⟨r', e, h, _⟩ | h
      · have : r = r' := by injection e
        subst this
        exact absurd (hb.mpr h) c
      · have := h.2.1 45 List.mem_cons_self
        omega
  · have h1 : z.cps.toList.take 1 ≠ [45] := fun e => c (decide_eq_true e)
    refine ⟨_, rfl, z, rfl, hz, fun b H1 l1 hb => q _ _ l1 ?_⟩
    rw [hb]
    constructor
    · exact .inr
    · rintro (⟨r, e, _⟩ | h)
      · exact absurd (by rw [e]; rfl) h1
      · exact h
end
end Od
end
section
set_option Elab.async false
set_option linter.all false
set_option maxRecDepth 100000
set_option maxHeartbeats 2000000
set_option autoImplicit false
namespace Od
open PySem PySem.Spec PyProof.Rows L2 C8 Day
abbrev s_DaySet_read : Stmt := inClass (top 16) 7
abbrev N_DaySet_read : List Str := ["cls", "text", "words", "at", "word", "left", "low", "middle", "right"]
abbrev P_DaySet_read : List Str := ["cls", "text"]
theorem sc_DaySet_read : FnScope N_DaySet_read P_DaySet_read (C8.fnScope s_DaySet_read) := fnScope_by (by decide +kernel)
/-- the four words -/
def words4 (l : List Bool) (n : Int) (m r : List Bool) : List Str := [rowS l, numS n, midS m, rowS r]
theorem row_is {l : List Bool} (h : l ≠ []) : IsRowL (rowS l).cps.toList := by
  rw [rowS_tl]
  refine ⟨fun e => h (List.map_eq_nil_iff.mp e), fun c hc => ?_⟩
  obtain ⟨b, _, rfl⟩ := List.mem_map.mp hc
  cases b
  · exact .inl rfl
  · exact .inr rfl
theorem cnt_num (n : Nat) : IsCnt (TL.numL n) := by
  refine ⟨TL.numL_ne n, fun c hc => TL.numL_digits n c hc, ?_⟩
  by_cases h0 : n = 0
  · subst h0
    exact .inl (by rw [TL.numL_lt (by decide)])
  · right
    have h : ∀ n : Nat, n ≠ 0 → (TL.numL n).head? ≠ some 48 := by
      intro n
      induction n using Nat.strongRecOn with
      | _ n ih =>
        intro h0 e
        by_cases h : n < 10
        · rw [TL.numL_lt h] at e
          have : 48 + n = 48 := Option.some.inj e
          omega
        · rw [TL.numL_step (by omega)] at e
          have h2 := ih (n / 10) (by omega) (by omega)
          cases hl : TL.numL (n / 10) with
          | nil => exact TL.numL_ne _ hl
          | cons a r =>
            rw [hl] at e h2
            exact h2 e
    exact h n h0
theorem num_is (n : Int) : IsNum (numS n).cps.toList := by
  rw [numS_tl]
  by_cases h : n < 0
  · rw [if_pos h]
    refine .inl ⟨_, rfl, cnt_num _, fun e => ?_⟩
    have : TL.numL 0 = [48] := TL.numL_lt (by decide)
    rw [← this] at e
    have := TL.numL_inj e
    omega
  · rw [if_neg h]
    exact .inr (cnt_num _)
theorem int_numS {n : Int} (h : n.natAbs < 10 ^ 8) : intText? (numS n) = some n ∧ (numS n).length ≤ 640 := by
  have hl : (TL.numL n.natAbs).length ≤ 8 := TL.numL_len (by decide) h
  have hlen : (numS n).length ≤ 9 := numS_len (by decide) h
  refine ⟨?_, by omega⟩
  by_cases c : n < 0
  · have e : (numS n).cps.toList = 45 :: TL.numL n.natAbs := by rw [numS_tl, if_pos c]
    rw [intText_neg e (TL.numL_digits _) (TL.numL_ne _) (by omega), TL.numL_val]
    congr 1
    omega
  · have e : (numS n).cps.toList = TL.numL n.natAbs := by rw [numS_tl, if_neg c]
    rw [intText_digits (by rw [e]; exact TL.numL_digits _) (by rw [e]; exact TL.numL_ne _) (by omega), e, TL.numL_val]
    congr 1
    omega
theorem split4 (l : List Bool) (n : Int) (m r : List Bool) : Txt.split (Txt.join (" " : Str) (words4 l n m r)) (" " : Str) = words4 l n m r := by
  refine TL.split_join (s := 32) (S := []) tl_sp (by decide +kernel) (by simp [words4]) fun p hp => ?_
  simp only [words4, List.mem_cons, List.not_mem_nil, or_false] at hp
  rcases hp with rfl | rfl | rfl | rfl
  · exact sg_free (by decide) (by decide)
  · exact numS_free (.inl (by decide)) _
  · exact midS_free (by decide) (by decide) (by decide) _
  · exact sg_free (by decide) (by decide)
section
variable {P : Program} {w : World} {K : PySem.W.Frag} {mg : Str → Option Value} {base : Heap}
def sp_read (C : Addr) : Sp := fun vs H Q _ => ∃ (l : List Bool) (n : Int) (m r : List Bool), vs = [.ref C, .str (Txt.join (" " : Str) (words4 l n m r))] ∧ l ≠ [] ∧ r ≠ [] ∧ l.length ≤ 1000 ∧ m.length ≤ 1000 ∧ r.length ≤ 1000 ∧ n.natAbs < 10 ^ 8 ∧ (Txt.join (" " : Str) (words4 l n m r)).length ≤ 1000000 ∧
  ∀ p H', Le H H' → IsDay C H' p (Frm.mk l n m r).mem → H p = none → Q (.ref p) H'
theorem q_read {C : Addr} (T : Txt K mg) (D : DSC K mg C) (M : ClmOf K C "read" "DaySet.read" s_DaySet_read P_DaySet_read) (C_is_number : Cal P w K mg base 2 "is_number" (sp_isL IsNum) []) (C_is_row : Cal P w K mg base 1 "is_row" (sp_isL IsRowL) []) (M_DaySet : Mak P w K mg base 4 "DaySet" C (sp_init C) []) : CMt P w K mg base 6 C "read" (sp_read C) := by
  obtain ⟨mc, pp, g, fd, r, cm, F, B⟩ := M
  refine cmt0 r cm F B sc_DaySet_read (fun vs H Q E h => by obtain ⟨_, _, _, _, rfl, _⟩ := h; rfl) (fun cdv A outer s H vs Q E hr h => ?_)
  obtain ⟨l, n, m, r, rfl, l0, r0, ll, lm, lr, ln, lt, qq⟩ := h
  have nd := sc_DaySet_read.nd
  refine ⟨_, (C8.pss_cut (ps_set (i := 2) nd rfl (Or.inl rfl) (pe_ifExp (pt_cmpR op_ne (pv 1) pe_str (nomark _)) (pe_split (pv 1) pe_str) (pe_lst pa_nil)))
      (C8.pss_cut (ps_for PassesOwn.never rfl (pi_enum (by rfl) T.b_enumerate (pa_cons (pe_slice sl_list (pv 2) po_none (po_some pe_int)) pa_nil)) (pg_tup rfl (pgs_cons (pg_name (i := 3) nd rfl (Or.inl rfl)) (pgs_cons (pg_name (i := 4) nd rfl (Or.inl rfl)) pgs_nil))) (pss_one (ps_if (pt_not (pt_ifE (pt_cmpR op_eq (pv 3) pe_int (nomark _)) (pt_val (pe_c C_is_number hr (by decide) rfl (pa_cons (pv 4) pa_nil))) (PW.pt (pw_or (pt_val (pe_c C_is_row hr (by decide) rfl (pa_cons (pv 4) pa_nil))) (pw_or1 (PW.pt (pw_and (pt_cmpR op_eq (pv 3) pe_int (nomark _)) (pw_and1 (pt_cmpR op_eq (pv 4) pe_str (nomark _)))))))))) (pss_one ps_never) pss_nil)))
      (C8.pss_cut (ps_if (pt_cmpR op_ne (pe_callB call_len_seq (by rfl) T.b_len (by decide +kernel) (pa_cons (pv 2) pa_nil)) pe_int (nomark _)) (pss_one ps_never) pss_nil)
      (pss_cons (ps_asg (pv 2) (pg_lst rfl (pgs_cons (pg_name (i := 5) nd rfl (Or.inl rfl)) (pgs_cons (pg_name (i := 6) nd rfl (Or.inl rfl)) (pgs_cons (pg_name (i := 7) nd rfl (Or.inl rfl)) (pgs_cons (pg_name (i := 8) nd rfl (Or.inl rfl)) pgs_nil))))))
      (pss_one (ps_ret (pe_mk M_DaySet hr (by decide) rfl (pa_cons (pv 5) (pa_cons (pe_callTy call_int_str (by rfl) T.b_int (by decide +kernel) (pa_cons (pv 6) pa_nil)) (pa_cons (pe_ifExp (pt_cmpR op_eq (pv 7) pe_str (nomark _)) pe_str (pv 7)) (pa_cons (pv 8) pa_nil))))))))))), ?_⟩
  have hne : (Txt.join (" " : Str) (words4 l n m r)).cps.toList ≠ [] := fun e => by
    have h := split4 l n m r
    have e2 : Txt.join (" " : Str) (words4 l n m r) = ("" : Str) := TL.ext_tl (e.trans tl_nil.symm)
    rw [e2] at h
    have h2 := congrArg List.length h
    have : (Txt.split ("" : Str) (" " : Str)).length = 1 := by decide +kernel
    rw [this] at h2
    cases h2
  have sz : sizeLine = 16777216 := sizeLine_eq
  -- the words
  refine ⟨fun σ' H' => ∃ dw, Le H H' ∧ H' dw = some (.lst ((words4 l n m r).map V.str)) ∧ σ' = [some (.ref C), some (.str (Txt.join (" " : Str) (words4 l n m r))), some (.ref dw), none, none, none, none, none, none], ?_, ?_⟩
  · refine ⟨_, rfl, rfl, _, rfl, ?_⟩
    show if (!decide (V.str (Txt.join (" " : Str) (words4 l n m r)) = V.str ("" : Str))) = true then _ else _
    rw [str_dec _ [] "" tl_nil, decide_eq_false hne]
    refine ⟨_, rfl, ⟨_, rfl⟩, _, _, rfl, rfl, by decide +kernel, by omega, fun q hq => ?_⟩
    rw [split4]
    exact ⟨q, Le.new hq, upd_self, rfl⟩
  rintro σ' H1 ⟨dw, l1, e1, rfl⟩
  -- each is right
  refine ⟨fun σ' H' => Le H1 H' ∧ ∃ x3 x4, σ' = [some (.ref C), some (.str (Txt.join (" " : Str) (words4 l n m r))), some (.ref dw), x3, x4, none, none, none, none], ?_, ?_⟩
  · refine ⟨_, rfl, _, rfl, dw, _, rfl, .of e1, fun q hq => ?_⟩
    have ec : cutV ((words4 l n m r).map V.str) none (some 4) = (words4 l n m r).map V.str := by rfl
    rw [ec]
    have k1 := Le.new (o := .lst ((words4 l n m r).map V.str)) hq
    refine ⟨q, _, rfl, .of upd_self, ?_⟩
    refine for_it (walk_enum (K := K) (a := q) (xs := (words4 l n m r).map V.str)) (fun i σ' H' => Le (upd H1 q (.lst ((words4 l n m r).map V.str))) H' ∧ ∃ x3 x4, σ' = [some (.ref C), some (.str (Txt.join (" " : Str) (words4 l n m r))), some (.ref dw), x3, x4, none, none, none, none]) ?_ ?_ ?_ ?_
    · exact ⟨.refl, _, _, rfl⟩
    · rintro i σ' H' _ ⟨le, _⟩
      exact .of (le _ _ upd_self)
    · rintro i v σ' Ha Hb hi ⟨le, x3, x4, rfl⟩ ⟨Tt, x, y, rfl, hT, rfl, hx, hy⟩
      have hx : V.int (i : Nat) = x := Option.some.inj hx
      subst hx
      have leT := le.trans (Le.new (o := .tup [.int (i : Nat), y]) hT)
      have hy : ((words4 l n m r).map V.str)[i]? = some y := hy
      rw [List.getElem?_map] at hy
      obtain ⟨z, hz, rfl⟩ := Option.map_eq_some_iff.mp hy
      have zlen : z.length ≤ 1000000 := by
        have : z ∈ words4 l n m r := List.mem_of_getElem? hz
        simp only [words4, List.mem_cons, List.not_mem_nil, or_false] at this
        rcases this with rfl | rfl | rfl | rfl
        · rw [rowS_len]; omega
        · have := (int_numS ln).2; omega
        · unfold midS; split
          · decide +kernel
          · rw [rowS_len]; omega
        · rw [rowS_len]; omega
      refine ⟨Tt, _, rfl, .of upd_self, rfl, _, _, rfl, _, _, rfl, rfl, ?_⟩
      refine ⟨_, rfl, rfl, _, rfl, ?_⟩
      refine ite2 (fun c => ?_) (fun c => ?_)
      · have i1 : i = 1 := by
          have := of_decide_eq_true c
          injection this with this
          omega
        subst i1
        have hz : numS n = z := Option.some.inj hz
        subst hz
        refine ⟨_, rfl, _, rfl, zlen, fun b H3 l3 hb => ⟨_, rfl, ?_⟩⟩
        rw [hb.mpr (num_is n)]
        exact ⟨leT.trans l3, _, _, rfl⟩
      · refine ⟨_, rfl, _, rfl, zlen, fun b H3 l3 hb => ⟨_, rfl, ?_⟩⟩
        refine ite2 (fun c2 => ?_) (fun c2 => ?_)
        · exact ⟨leT.trans l3, _, _, rfl⟩
        have nrow : ¬ IsRowL z.cps.toList := fun h => c2 (hb.mpr h)
        have hi2 : i = 2 ∧ z = ("-" : Str) := by
          match i, hz with
          | 0, hz =>
            have hz : rowS l = z := Option.some.inj hz
            rw [← hz] at nrow
            exact absurd (row_is l0) nrow
          | 1, hz => exact absurd rfl c
          | 2, hz =>
            have hz : midS m = z := Option.some.inj hz
            refine ⟨rfl, ?_⟩
            rw [← hz] at nrow ⊢
            unfold midS at nrow ⊢
            by_cases hm : m = []
            · rw [if_pos hm]
            · rw [if_neg hm] at nrow
              exact absurd (row_is hm) nrow
          | 3, hz =>
            have hz : rowS r = z := Option.some.inj hz
            rw [← hz] at nrow
            exact absurd (row_is r0) nrow
          | i + 4, hz => simp [words4] at hz
        obtain ⟨rfl, rfl⟩ := hi2
        refine ⟨_, rfl, rfl, _, rfl, ?_⟩
        refine ⟨_, rfl, rfl, _, rfl, ?_⟩
        have : decide (V.str ("-" : Str) = V.str ("-" : Str)) = true := by rw [decide_eq_true rfl]
        show if (!decide (V.str ("-" : Str) = V.str ("-" : Str))) = true then _ else _
        rw [this]
        exact ⟨leT.trans l3, _, _, rfl⟩
    · rintro σ' H' ⟨le, h⟩
      exact ⟨k1.trans le, h⟩
  rintro σ' H2 ⟨l2, x3, x4, rfl⟩
  have e2 := l2 _ _ e1
  refine ⟨fun σ' H' => H' = H2 ∧ σ' = [some (.ref C), some (.str (Txt.join (" " : Str) (words4 l n m r))), some (.ref dw), x3, x4, none, none, none, none], ?_, ?_⟩
  · refine ⟨_, rfl, dw, _, rfl, .inl (.of e2), rfl, _, rfl, ?_⟩
    exact ⟨rfl, rfl⟩
  rintro σ' H3 ⟨rfl, rfl⟩
  refine ⟨_, rfl, dw, _, rfl, .of e2, rfl, ?_⟩
  refine ⟨_, _, rfl, _, _, rfl, _, _, rfl, _, _, rfl, rfl, ?_⟩
  have hmid : decide (V.str (midS m) = V.str ("-" : Str)) = decide (m = []) := by
    rw [str_dec _ [45] "-" tl_dash, decide_eq_decide, midS_tl]
    constructor
    · intro h
      by_cases c : m = []
      · exact c
      · rw [if_neg c] at h
        have : 45 ∈ m.map sg := by rw [h]; exact List.mem_cons_self
        exact absurd this (sg_free (by decide) (by decide))
    · intro h
      rw [if_pos h]
  refine ⟨_, rfl, _, rfl, _, n, rfl, (int_numS ln).1, (int_numS ln).2, _, rfl, rfl, _, rfl, ?_⟩
  show if decide (V.str (midS m) = V.str ("-" : Str)) = true then _ else _
  rw [hmid]
  have fin := make_day (C := C) (H := H3) (Q := Q) (E := C8.E0) l n m r (Frm.mk l n m r).mem l0 r0 (by omega) (by omega) (by omega) (fun _ => rfl) (fun p H' le hd h0 => qq p H' ((l1.trans l2).trans le) hd ((l1.trans l2).none h0))
  refine ite2 (fun c => ?_) (fun c => ?_)
  · have hm : m = [] := of_decide_eq_true c
    subst hm
    refine ⟨_, rfl, ?_⟩
    rw [rowS_nil] at fin
    exact fin
  · have hm : m ≠ [] := fun e => c (decide_eq_true e)
    refine ⟨_, rfl, _, rfl, ?_⟩
    have : midS m = rowS m := by unfold midS; rw [if_neg hm]
    rw [← this] at fin
    exact fin
end
end Od
end
section
set_option Elab.async false
set_option linter.all false
set_option maxRecDepth 100000
set_option maxHeartbeats 2000000
set_option autoImplicit false
namespace Od
open PySem PySem.Spec PyProof.Rows L2 C8 Day
abbrev s__law_signs : Stmt := top 34
abbrev N__law_signs : List Str := ["_law_pen_here", "_law_least", "_law_most", "_law_kind", "_law_span", "_law_k"]
abbrev P__law_signs : List Str := ["_law_pen_here", "_law_least", "_law_most"]
theorem sc__law_signs : FnScope N__law_signs P__law_signs (C8.fnScope s__law_signs) := fnScope_by (by decide +kernel)
abbrev s__law_form : Stmt := top 35
abbrev N__law_form : List Str := ["_law_pen_here", "_law_most", "_law_middle", "_law_words"]
abbrev P__law_form : List Str := ["_law_pen_here", "_law_most"]
theorem sc__law_form : FnScope N__law_form P__law_form (C8.fnScope s__law_form) := fnScope_by (by decide +kernel)
theorem IsDay.lp {C : Addr} {H H' : Hp} {d p : Addr} {f : Int → Bool} (h : IsDay C H p f) (l : LeX d H H') (hd : ∃ kvs, H d = some (.dK kvs)) : IsDay C H' p f := by
  obtain ⟨F, dx, L, z, m, e⟩ := h
  refine ⟨F, dx, L, z, m, l p _ (fun c => ?_) e⟩
  subst c
  obtain ⟨k, e2⟩ := hd
  rw [e] at e2
  cases e2
theorem sg01 {r : Int} (h0 : 0 ≤ r) (h1 : r < 2) : atI (("01" : Str)).cps.toList r = some (sg (decide (r = 1))) := by
  have e : (("01" : Str)).cps.toList = [48, 49] := by decide +kernel
  rw [e]
  have : r = 0 ∨ r = 1 := by omega
  rcases this with rfl | rfl
  · exact atI_nat (j := 0) rfl
  · exact atI_nat (j := 1) rfl
theorem signs_of : ∀ rs : List (Option V), (∀ r ∈ rs, ∃ b, r = some (V.str ⟨#[sg b]⟩)) → ∃ bs : List Bool, rs.filterMap id = (bs.map fun b => (⟨#[sg b]⟩ : Str)).map V.str ∧ bs.length = rs.length
  | [], _ => ⟨[], rfl, rfl⟩
  | r :: rs, h => by
    obtain ⟨b, rfl⟩ := h r List.mem_cons_self
    obtain ⟨bs, e, l⟩ := signs_of rs fun q hq => h q (List.mem_cons_of_mem _ hq)
    exact ⟨b :: bs, by rw [List.filterMap_cons]; simp [e], by simp [l]⟩
theorem if_mid {m : List Bool} {σ : L2.St} {H : Hp} {Qk : VK} (hσ : σ[2]? = some (some (.str (rowS m)))) (h : Qk (.str (midS m)) H) : if (!decide (V.str (rowS m) = V.str ("" : Str))) = true then tVar 2 σ H Qk else tC (.str ("-" : Str)) σ H Qk := by
  have ed : decide (V.str (rowS m) = V.str ("" : Str)) = decide (m = []) := by rw [← rowS_nil, rowS_dec]
  rw [ed]
  by_cases c : m = []
  · rw [decide_eq_true c]
    have : midS m = ("-" : Str) := by unfold midS; rw [if_pos c]
    rw [this] at h
    exact h
  · rw [decide_eq_false c]
    have : midS m = rowS m := by unfold midS; rw [if_neg c]
    rw [this] at h
    exact ⟨_, hσ, h⟩
section
variable {P : Program} {w : World} {K : PySem.W.Frag} {mg : Str → Option Value} {base : Heap}
def sp_signs : Sp := fun vs H Q _ => ∃ (d dl : Addr) (n a b : Int), vs = [.ref d, .int a, .int b] ∧ IsPen H d dl n ∧ n ≤ 900000000 ∧ 0 ≤ a ∧ a ≤ b ∧ b ≤ 1000 ∧ ∀ l H', LeX d H H' → IsPen H' d dl (n + 2 + b) → a ≤ (l.length : Int) → (l.length : Int) ≤ b → Q (.str (rowS l)) H'
theorem c_signs (T : Txt K mg) (F : DefOf K mg "_law_signs" s__law_signs P__law_signs) (C__law_draw : Cal P w K mg base 1 "_law_draw" sp_draw []) : Cal P w K mg base 2 "_law_signs" sp_signs [] := by
  obtain ⟨f, fd, F, B⟩ := F
  refine cal0 F B .nil sc__law_signs (fun vs H Q E h => by obtain ⟨_, _, _, _, _, rfl, _⟩ := h; rfl) (fun cdv A outer s H vs Q E hr h => ?_)
  obtain ⟨d, dl, n, a, b, rfl, pn, n1, a0, ab, b1, q⟩ := h
  have nd := sc__law_signs.nd
  refine ⟨_, (pss_cons (ps_set (i := 3) nd rfl (Or.inr rfl) (pe_c C__law_draw hr (by decide) rfl (pa_cons (pv 0) (pa_cons pe_int pa_nil))))
      (pss_cons (ps_set (i := 4) nd rfl (Or.inl rfl) (pe_op op_add (pv 1) (pe_c C__law_draw hr (by decide) rfl (pa_cons (pv 0) (pa_cons (pe_op op_add (pe_op op_sub (pv 2) (pv 1)) pe_int) pa_nil)))))
      (pss_one (ps_ret (pe_join pe_str (pe_lc (own := [("_law_k", 5)]) (g := gName 5) (by rfl) nd (pi_range1 (by rfl) T.b_range (pa_cons (pv 4) pa_nil)) (blkOk_by (own := [("_law_k", 5)]) (N := N__law_signs) (sc := C8.fnScope s__law_signs) (by decide +kernel)) (fun _ _ _ _ _ => pg_name (i := 5) nd rfl (Or.inl rfl)) (fun _ _ _ _ _ => pts_nil) (fun _ _ _ _ _ => (pe_ix ix_str pe_str (pe_ifExp (pt_cmpR op_lt (pv 3) pe_int (nomark _)) (pv 3) (pe_c C__law_draw hr (by decide) rfl (pa_cons (pv 0) (pa_cons pe_int pa_nil)))) (fun _ _ => rfl))))))))), ?_⟩
  have lg : ∀ x : Int, 0 < x → x < 100000000 → x.natAbs.log2 < 9000 := fun x h0 h => Nat.lt_trans (log_lt (by omega)) (by decide)
  refine ⟨_, rfl, d, dl, 4, n, rfl, pn, by omega, by decide, lg 4 (by decide) (by decide), fun kind H1 l1 p1 k0 k1 => ?_⟩
  refine ⟨_, rfl, _, rfl, _, rfl, _, rfl, _, _, rfl, rfl, _, _, rfl, rfl, d, dl, _, n + 1, rfl, p1, by omega, by omega, lg _ (by omega) (by omega), fun r H2 l2 p2 r0 r1 => ?_⟩
  refine ⟨_, _, rfl, rfl, ?_⟩
  refine ⟨⟨_, rfl⟩, _, rfl, _, rfl, by omega, by omega, fun D hD => ?_⟩
  refine lc_pen walk_range hD p2 (le_szl _ (by omega)) (fun _ _ => trivial) yfn_le (fun r _ => ∃ b, r = some (V.str ⟨#[sg b]⟩)) (fun _ _ _ _ _ _ h => h) (c := 1) ?_ ?_
  · rintro i x Ha Hb hi lx ha pb ⟨rfl, rfl⟩ N hN
    refine ⟨rfl, ?_⟩
    refine ⟨_, rfl, _, _, rfl, rfl, _, rfl, ?_⟩
    refine ite2 (fun c => ?_) (fun c => ?_)
    · have hk : kind < 2 := of_decide_eq_true c
      exact ⟨_, rfl, _, _, _, rfl, rfl, le_szl 2 (by decide), sg01 k0 hk, hN _ _ Le.refl.x (pb.mono (by omega)) ⟨_, rfl⟩⟩
    · refine ⟨_, rfl, d, dl, 2, _, rfl, pb, by omega, by decide, lg 2 (by decide) (by decide), fun r2 H3 l3 p3 z0 z1 => ?_⟩
      exact ⟨_, _, _, rfl, rfl, le_szl 2 (by decide), sg01 z0 z1, hN _ _ l3 p3 ⟨_, rfl⟩⟩
  · intro H3 rs lx p3 hl hr e
    obtain ⟨bs, hb, hbl⟩ := signs_of rs hr
    rw [hb] at e
    refine ⟨_, D, bs.map fun b => (⟨#[sg b]⟩ : Str), rfl, rfl, .inl (.of e), ?_, ?_⟩
    · have : ((bs.map fun b => (⟨#[sg b]⟩ : Str)).map (·.length)).sum = bs.length := by
        rw [List.map_map]
        have e6 : (bs.map ((fun x : Str => x.length) ∘ fun b => (⟨#[sg b]⟩ : Str))) = bs.map fun _ => 1 := List.map_congr_left fun _ _ => rfl
        rw [e6, sum_one]
      have e7 : (("" : Str)).length = 0 := by decide +kernel
      rw [this, e7]
      omega
    rw [join_signs]
    exact q bs H3 ((l1.tr l2).tr lx) (p3.mono (by omega)) (by omega) (by omega)
def sp_form : Sp := fun vs H Q _ => ∃ (d dl : Addr) (n b : Int), vs = [.ref d, .int b] ∧ IsPen H d dl n ∧ n ≤ 800000000 ∧ 0 ≤ b ∧ b ≤ 100 ∧
  ∀ l k m r x H', LeX d H H' → IsPen H' d dl (n + 20 + b) → H x = none → l ≠ [] → r ≠ [] → l.length ≤ 4 → r.length ≤ 4 → (m.length : Int) ≤ b → -20 ≤ k → k ≤ 20 → H' x = some (.lst ((words4 l k m r).map V.str)) → Q (.ref x) H'
theorem c_form (T : Txt K mg) (F : DefOf K mg "_law_form" s__law_form P__law_form) (C__law_draw : Cal P w K mg base 1 "_law_draw" sp_draw []) (C__law_signs : Cal P w K mg base 2 "_law_signs" sp_signs []) : Cal P w K mg base 3 "_law_form" sp_form [] := by
  obtain ⟨f, fd, F, B⟩ := F
  refine cal0 F B .nil sc__law_form (fun vs H Q E h => by obtain ⟨_, _, _, _, rfl, _⟩ := h; rfl) (fun cdv A outer s H vs Q E hr h => ?_)
  obtain ⟨d, dl, n, b, rfl, pn, n1, b0, b1, q⟩ := h
  have nd := sc__law_form.nd
  refine ⟨_, (pss_cons (ps_set (i := 2) nd rfl (Or.inl rfl) (pe_c C__law_signs hr (by decide) rfl (pa_cons (pv 0) (pa_cons pe_int (pa_cons (pv 1) pa_nil)))))
      (pss_cons (ps_set (i := 3) nd rfl (Or.inl rfl) (pe_lst (pa_cons (pe_c C__law_signs hr (by decide) rfl (pa_cons (pv 0) (pa_cons pe_int (pa_cons pe_int pa_nil)))) (pa_cons (pe_callTy call_str_int (by rfl) T.b_str (by decide +kernel) (pa_cons (pe_op op_sub (pe_c C__law_draw hr (by decide) rfl (pa_cons (pv 0) (pa_cons pe_int pa_nil))) pe_int) pa_nil)) (pa_cons (pe_ifExp (pt_cmpR op_ne (pv 2) pe_str (nomark _)) (pv 2) pe_str) pa_nil)))))
      (pss_one (ps_ret (pe_op op_cat (pv 3) (pe_lst (pa_cons (pe_c C__law_signs hr (by decide) rfl (pa_cons (pv 0) (pa_cons pe_int (pa_cons pe_int pa_nil)))) pa_nil))))))), ?_⟩
  have lg : ∀ x : Int, 0 < x → x < 100000000 → x.natAbs.log2 < 9000 := fun x h0 h => Nat.lt_trans (log_lt (by omega)) (by decide)
  refine ⟨_, rfl, _, rfl, d, dl, n, 0, b, rfl, pn, by omega, by decide, b0, by omega, fun m H1 l1 p1 m0 m1 => ?_⟩
  refine ⟨_, rfl, d, dl, _, 1, 4, rfl, p1, by omega, by decide, by decide, by decide, fun l H2 l2 p2 x0 x1 => ?_⟩
  refine ⟨_, rfl, d, dl, 41, _, rfl, p2, by omega, by decide, lg 41 (by decide) (by decide), fun k H3 l3 p3 k0 k1 => ?_⟩
  refine ⟨_, _, rfl, rfl, _, rfl, Nat.lt_of_lt_of_le (log_lt (by omega)) (by decide), ?_⟩
  refine ⟨_, rfl, rfl, _, rfl, ?_⟩
  refine if_mid (m := m) rfl ?_
  refine ⟨le_szl 3 (by decide), fun q1 hq1 => ?_⟩
  have k3 : LeX d H H3 := (l1.tr l2).tr l3
  obtain ⟨kv3, d3⟩ := p3.dict
  have nq1 : q1 ≠ d := fun e => by rw [e, d3] at hq1; cases hq1
  have e1 : upd H3 q1 (.lst [.str (rowS l), .str (numS (k - 20)), .str (midS m)]) q1 = some (.lst [.str (rowS l), .str (numS (k - 20)), .str (midS m)]) := upd_self
  have p4 := p3.le (Le.new (o := .lst [.str (rowS l), .str (numS (k - 20)), .str (midS m)]) hq1)
  refine ⟨_, rfl, _, rfl, d, dl, _, 1, 4, rfl, p4, by omega, by decide, by decide, by decide, fun r H5 l5 p5 y0 y1 => ?_⟩
  refine ⟨le_szl 1 (by decide), fun q2 hq2 => ?_⟩
  have e5 := l5 _ _ nq1 e1
  have e6 := (Le.new (o := .lst [.str (rowS r)]) hq2) _ _ e5
  refine ⟨q1, q2, _, _, rfl, rfl, e6, upd_self, le_szl 4 (by decide), fun q3 hq3 => ?_⟩
  have hl0 : l ≠ [] := fun e => by rw [e] at x0; simp at x0
  have hr0 : r ≠ [] := fun e => by rw [e] at y0; simp at y0
  have k5 : LeX d H H5 := (k3.tr (Le.new (o := .lst [.str (rowS l), .str (numS (k - 20)), .str (midS m)]) hq1).x).tr l5
  have kA : LeX d H (upd (upd H5 q2 (.lst [.str (rowS r)])) q3 (.lst ([.str (rowS l), .str (numS (k - 20)), .str (midS m)] ++ [.str (rowS r)]))) := k5.tr ((Le.new (o := .lst [.str (rowS r)]) hq2).trans (Le.new hq3)).x
  refine q l (k - 20) m r q3 _ kA ((p5.le ((Le.new (o := .lst [.str (rowS r)]) hq2).trans (Le.new hq3))).mono (by omega)) ?_ hl0 hr0 (by omega) (by omega) m1 (by omega) (by omega) upd_self
  cases h : H q3 with
  | none => rfl
  | some o =>
    obtain ⟨kv5, d5⟩ := p5.dict
    have nq3 : q3 ≠ d := fun e => by
      rw [e] at hq3
      rw [(Le.new (o := .lst [.str (rowS r)]) hq2) _ _ d5] at hq3
      cases hq3
    have := (k5.tr (Le.new (o := .lst [.str (rowS r)]) hq2).x) q3 o nq3 h
    rw [hq3] at this
    cases this
/-! ### made_set -/
theorem join_lenR : ∀ (y : Str) (ys : List Str) (n : Nat), y.length = 1 → (∀ x ∈ ys, x.length ≤ n) → (ys.map (·.length)).sum ≤ ys.length * n := by
  intro y ys n _ h
  induction ys with
  | nil => simp
  | cons a l ih =>
    rw [List.map_cons, List.sum_cons, List.length_cons, Nat.succ_mul]
    have := ih fun x hx => h x (List.mem_cons_of_mem _ hx)
    have := h a List.mem_cons_self
    omega
end
end Od
end
section
set_option Elab.async false
set_option linter.all false
set_option maxRecDepth 100000
set_option maxHeartbeats 2000000
set_option autoImplicit false
/-! functions that are given back: their cells are tracked from the maker's end on -/
namespace Od
open PySem PySem.Spec PyProof.Rows L2 C8 Day NdefX LamX
/-- a cell and what it holds -/
def CellO (c : Addr) (v : Option Value) : HO := .ext fun h => h.IsCell c v
theorem cellO_at {P : Program} {w : World} {H : Hp} {h : Heap} {c : Addr} {v : Option Value} (hok : HOk P w H h) (e : H c = some (CellO c v)) : h.IsCell c v := (hok c _ e).1
theorem cellO_ok {P : Program} {w : World} {H : Hp} {h : Heap} {c : Addr} {v : Option Value} (z : h.IsCell c v) : ObjOk P w H h c (CellO c v) := by
  refine ⟨z, ?_, fun h1 h2 ⟨o, e, d⟩ k => ⟨o, k _ e, d⟩⟩
  obtain ⟨o, e, _⟩ := z
  exact ⟨o, e⟩
/-- a def within a def -/
def inDef (st : Stmt) (j : Nat) : Stmt := (C8.fnBody st).getD j (.Pass ⟨0, 0, 0, 0⟩)
/-! ### a function known by what it answers -/
/-- what a function may lean on: functions, code objects, cells; tables with numbers as keys; lists -/
def Kd : HO → Prop
  | .ext _ => True
  | .dK kvs => ∀ kv ∈ kvs, ∃ i, kv.1 = .inl i
  | .lst _ => True
  | .tup _ => True
  | _ => False
/-- the object at p is a function -/
def FnH (p : Addr) (o : HO) : Prop := ∃ φ : Heap → Prop, o = .ext φ ∧ ∀ h, φ h → PySem.W.FnAt p h
/-- the function at p answers g, and nothing else happens; S: what it leans on -/
def ClS (P : Program) (w : World) (K : PySem.W.Frag) (mg : Str → Option Value) (base : Heap) (k : Nat) (S : List Addr) (H : Hp) (p : Addr) (g : List V → Option V) : Prop :=
  p ∈ S ∧ (∀ a ∈ S, ∃ o, H a = some o ∧ Kd o) ∧ (∃ o, H p = some o ∧ FnH p o) ∧
  ∀ H' : Hp, (∀ a ∈ S, H' a = H a) → ∀ (A : Around) (outer : List Env) (s : Shared) (us : List Value) (vs : List V) (r : V), Room k A → Env0 P w K mg base A outer s H' → Vals vs us → g vs = some r →
    codeAny (model P w) A (.call (.ref p) ⟨us, []⟩) (CR C8.CX0 outer P w H' s (fun v H2 => v = r ∧ H2 = H') C8.E0) s
def ClAt (P : Program) (w : World) (K : PySem.W.Frag) (mg : Str → Option Value) (base : Heap) (k : Nat) (H : Hp) (p : Addr) (g : List V → Option V) : Prop := ∃ S, ClS P w K mg base k S H p g
/-- .. it leans on functions, code objects, cells alone -/
def ClAtE (P : Program) (w : World) (K : PySem.W.Frag) (mg : Str → Option Value) (base : Heap) (k : Nat) (H : Hp) (p : Addr) (g : List V → Option V) : Prop := ∃ S, ClS P w K mg base k S H p g ∧ ∀ a ∈ S, ∃ φ : Heap → Prop, H a = some (.ext φ)
section
variable {P : Program} {w : World} {K : PySem.W.Frag} {mg : Str → Option Value} {base : Heap} {k j : Nat} {S : List Addr} {H H' : Hp} {p D : Addr} {g g' : List V → Option V}
theorem ClS.of (c : ClS P w K mg base k S H p g) (h : ∀ a ∈ S, H' a = H a) : ClS P w K mg base k S H' p g := by
  obtain ⟨h1, h2, h3, h4⟩ := c
  refine ⟨h1, fun a ha => ?_, ?_, fun H2 e => h4 H2 fun a ha => (e a ha).trans (h a ha)⟩
  · rw [h a ha]; exact h2 a ha
  · rw [h p h1]; exact h3
theorem ClAt.le (c : ClAt P w K mg base k H p g) (l : Le H H') : ClAt P w K mg base k H' p g := by
  obtain ⟨S, c⟩ := c
  refine ⟨S, c.of fun a ha => ?_⟩
  obtain ⟨o, e, _⟩ := c.2.1 a ha
  rw [e, l a o e]
theorem ClAt.x (c : ClAt P w K mg base k H p g) (l : LeX D H H') (h : ∀ o, H D = some o → ¬ Kd o) : ClAt P w K mg base k H' p g := by
  obtain ⟨S, c⟩ := c
  refine ⟨S, c.of fun a ha => ?_⟩
  obtain ⟨o, e, q⟩ := c.2.1 a ha
  rw [e, l a o (fun z => h o (z ▸ e) q) e]
theorem ClAt.n (c : ClAt P w K mg base k H p g) (l : ExtN H H') : ClAt P w K mg base k H' p g := by
  obtain ⟨S, c⟩ := c
  refine ⟨S, c.of fun a ha => ?_⟩
  obtain ⟨o, e, q⟩ := c.2.1 a ha
  rw [e, l a o e (fun ps z => by subst z; exact q)]
theorem ClAt.mono (c : ClAt P w K mg base j H p g) (h : j ≤ k) : ClAt P w K mg base k H p g := by
  obtain ⟨S, c1, c2, c3, c4⟩ := c
  exact ⟨S, c1, c2, c3, fun H' e A outer s us vs r hr => c4 H' e A outer s us vs r (hr.mono h)⟩
theorem ClAt.imp (c : ClAt P w K mg base k H p g) (h : ∀ vs r, g' vs = some r → g vs = some r) : ClAt P w K mg base k H p g' := by
  obtain ⟨S, c1, c2, c3, c4⟩ := c
  exact ⟨S, c1, c2, c3, fun H' e A outer s us vs r hr e0 hv hg => c4 H' e A outer s us vs r hr e0 hv (h _ _ hg)⟩
theorem ClAt.there (c : ClAt P w K mg base k H p g) : ∃ o, H p = some o ∧ FnH p o := by
  obtain ⟨S, c1, c2, c3, c4⟩ := c
  exact c3
theorem ClAtE.at (c : ClAtE P w K mg base k H p g) : ClAt P w K mg base k H p g := by
  obtain ⟨S, c, _⟩ := c
  exact ⟨S, c⟩
theorem ClAtE.gen (c : ClAtE P w K mg base k H p g) (l : ∀ a φ, H a = some (.ext φ) → H' a = some (.ext φ)) : ClAtE P w K mg base k H' p g := by
  obtain ⟨S, c, e⟩ := c
  have q : ∀ a ∈ S, H' a = H a := fun a ha => by
    obtain ⟨φ, z⟩ := e a ha
    rw [z, l a φ z]
  refine ⟨S, c.of q, fun a ha => ?_⟩
  rw [q a ha]
  exact e a ha
theorem ClAtE.le (c : ClAtE P w K mg base k H p g) (l : Le H H') : ClAtE P w K mg base k H' p g := c.gen fun a φ e => l a _ e
theorem ClAtE.x (c : ClAtE P w K mg base k H p g) (l : LeX D H H') (h : ∀ φ, H D ≠ some (.ext φ)) : ClAtE P w K mg base k H' p g := c.gen fun a φ e => l a _ (fun z => h φ (z ▸ e)) e
theorem ClAtE.n (c : ClAtE P w K mg base k H p g) (l : ExtN H H') : ClAtE P w K mg base k H' p g := c.gen fun a φ e => l a _ e fun ps z => by cases z
theorem ClAtE.mono (c : ClAtE P w K mg base j H p g) (h : j ≤ k) : ClAtE P w K mg base k H p g := by
  obtain ⟨S, ⟨c1, c2, c3, c4⟩, e⟩ := c
  exact ⟨S, ⟨c1, c2, c3, fun H' e A outer s us vs r hr => c4 H' e A outer s us vs r (hr.mono h)⟩, e⟩
theorem ClAtE.imp (c : ClAtE P w K mg base k H p g) (h : ∀ vs r, g' vs = some r → g vs = some r) : ClAtE P w K mg base k H p g' := by
  obtain ⟨S, ⟨c1, c2, c3, c4⟩, e⟩ := c
  exact ⟨S, ⟨c1, c2, c3, fun H' e A outer s us vs r hr e0 hv hg => c4 H' e A outer s us vs r hr e0 hv (h _ _ hg)⟩, e⟩
end
/-! ### called -/
/-- x(..), x a name that holds a function of this kind -/
def tClo (R : Hp → Addr → (List V → Option V) → Prop) (i : Nat) (t : TA) : TE := fun σ H Q => ∃ p g, σ[i]? = some (some (.ref p)) ∧ R H p g ∧ t σ H fun vs H1 => R H1 p g ∧ ∃ r, g vs = some r ∧ Q r H1
section
variable {X : Cx} {i j k : Nat} {x : Str} {t : TA} {e : Expr} {es : List Expr} {p pos : Pos}
theorem fnH_at {pins : List (Addr × Obj)} {σ : L2.St} {H : Hp} {s : Shared} {q : Addr} {o : HO} (I : Inv X pins σ H s) (e : H q = some o) (f : FnH q o) : PySem.W.FnAt q s.heap := by
  obtain ⟨φ, rfl, h⟩ := f
  exact h _ (I.hok q _ e).1
theorem pe_clo (hr : Room k X.A) (hN : X.N[i]? = some x) (hv : Vis X.env.scope x) (ha : PA X (e :: es) t)
    (hd : (x == ("__debug__" : Str)) = false := by decide) (hcd : (x == ("__classdict__" : Str)) = false := by decide)
    (he : starEach (e :: es) X.env = (false, eval e X.env) :: starEach es X.env := by rfl) (hpl : (backTo pos (starEach es X.env)).any (·.1) = false := by rfl) :
    PE X (.Call (.Name x p) (e :: es) [] pos) (tClo (ClAt X.prog X.w X.K X.mg X.base k) i t) := by
  refine ⟨fun pins s σ H Q I h => ?_⟩
  obtain ⟨f, g, hs, hc, ht⟩ := h
  refine wpAny_Call_Name_kw (thn ((pe_var (pos := p) hN hv hd hcd).run pins s σ H (fun v H1 => v = .ref f ∧ H1 = H) I ⟨.ref f, hs, rfl, rfl⟩) fun u s1 ⟨v, H1, I1, r1, q1⟩ => ?_)
  obtain ⟨ev, eH⟩ := q1
  subst ev
  rw [eH] at I1
  obtain rfl : u = Value.ref f := r1
  obtain ⟨o1, e1, f1⟩ := hc.there
  refine PySem.W.callWith_F (first := []) (fnH_at I1 e1 f1) (thn (ha.run pos pins s1 σ H _ I1 ht) fun us s2 ⟨vs, H2, I2, r, hc2, y, hg, q⟩ => ?_) he hpl
  obtain ⟨o2, e2, f2⟩ := hc2.there
  refine ⟨fnH_at I2 e2 f2, ?_⟩
  show wpAny _ _ (call (.ref f) us) _ _ _
  obtain ⟨S, c1, c2, c3, c4⟩ := hc2
  refine wpAny_call (codeAny_mono (c4 H2 (fun _ _ => rfl) X.A X.stack s2 us vs y hr I2.env0 r hg) fun rr s' hq => ?_)
  cases rr with
  | error e => exact hq.elim
  | ok fl =>
    cases fl with
    | ret u =>
      obtain ⟨v, H', J, rv, ev, eH⟩ := I2.after hq
      subst ev
      subst eH
      exact ⟨v, H', J, rv, q⟩
    | next => exact False.elim hq
    | brk => exact False.elim hq
    | cont => exact False.elim hq
/-- .. in a comprehension's block too -/
theorem pe_cloK {P : Program} {w : World} {K : PySem.W.Frag} {mg : Str → Option Value} {base : Heap} (hX : X.prog = P ∧ X.w = w ∧ X.K = K ∧ X.mg = mg ∧ X.base = base) (hr : Room k X.A) (hN : X.N[i]? = some x) (hv : Vis X.env.scope x) (ha : PA X (e :: es) t)
    (hd : (x == ("__debug__" : Str)) = false := by decide) (hcd : (x == ("__classdict__" : Str)) = false := by decide)
    (he : starEach (e :: es) X.env = (false, eval e X.env) :: starEach es X.env := by rfl) (hpl : (backTo pos (starEach es X.env)).any (·.1) = false := by rfl) :
    PE X (.Call (.Name x p) (e :: es) [] pos) (tClo (ClAt P w K mg base k) i t) := by
  obtain ⟨rfl, rfl, rfl, rfl, rfl⟩ := hX
  exact pe_clo hr hN hv ha hd hcd he hpl
end
/-! ### statements that end by a return, the state told too -/
abbrev TX := (L2.St → V → Hp → Prop) → L2.St → Hp → Prop
def XP (X : Cx) (pins : List (Addr × Obj)) (R : L2.St → V → Hp → Prop) (f : Flow) (s' : Shared) : Prop :=
  match f with
  | .ret u => ∃ v σ' H', Inv X pins σ' H' s' ∧ L2.RelV v u ∧ R σ' v H'
  | _ => False
structure PXs (X : Cx) (st : List Stmt) (t : TX) : Prop where
  run : ∀ (pins : List (Addr × Obj)) (s : Shared) (σ : L2.St) (H : Hp) (R : L2.St → V → Hp → Prop), Inv X pins σ H s → t R σ H → wpAny (model X.prog X.w) X.A (execs st X.env) (XP X pins R) X.xe s
section
variable {X : Cx} {st : Stmt} {rest body : List Stmt} {ts : TS} {tr tp : TX} {tc : TT} {te : TE} {c e : Expr} {pos : Pos}
theorem PXs.nox (h : PXs X.nox body tr) : PXs X body tr := ⟨fun pins s σ H R I hw =>
  wpAny_mono (h.run pins s σ H R (I.wish _) hw) (fun f s' q => by
    cases f with
    | ret u =>
      obtain ⟨v, σ', H', J, rv, q⟩ := q
      exact ⟨v, σ', H', J.unwish, rv, q⟩
    | next => exact q
    | brk => exact q
    | cont => exact q) fun _ _ z => z.elim⟩
def xRet (te : TE) : TX := fun R σ H => te σ H fun v H1 => R σ v H1
theorem px_ret (he : PE X e te) : PXs X (.Return (some e) pos :: rest) (xRet te) := ⟨fun pins s σ H R I h =>
  wpAny_execs_cons (wpAny_Return_some (thn (he.run pins s σ H _ I h) fun v s1 ⟨x, H1, I1, r1, q1⟩ => ⟨x, σ, H1, I1, r1, q1⟩))⟩
def xCons (ts : TS) (tr : TX) : TX := fun R σ H => ts { nx := fun σ1 H1 => tr R σ1 H1, rt := fun _ _ => False } σ H
theorem px_cons (h1 : PS X st ts) (h2 : PXs X rest tr) : PXs X (st :: rest) (xCons ts tr) := by
  refine ⟨fun pins s σ H R I h => ?_⟩
  refine wpAny_execs_cons (thn (h1.run pins s σ H _ I h) fun f s1 q => ?_)
  cases f with
  | next =>
    obtain ⟨σ', H', I', q⟩ := q
    exact h2.run pins s1 σ' H' R I' q
  | ret v =>
    obtain ⟨_, _, _, _, _, q⟩ := q
    exact q.elim
  | brk =>
    obtain ⟨_, _, _, q⟩ := q
    exact q.elim
  | cont =>
    obtain ⟨_, _, _, q⟩ := q
    exact q.elim
/-- if c: .. return; rest -/
def xIf (tc : TT) (tp tr : TX) : TX := fun R σ H => tc σ H fun b H1 => if b = true then tp R σ H1 else tr R σ H1
theorem px_if (hc : PT X c tc) (hp : PXs X body tp) (hr : PXs X rest tr) : PXs X (.If c body [] pos :: rest) (xIf tc tp tr) := by
  refine ⟨fun pins s σ H R I h => ?_⟩
  refine wpAny_execs_cons (wpAny_If (thn (hc.run pins s σ H _ I h) fun d s1 ⟨H1, I1, q1⟩ => ?_))
  cases d with
  | true =>
    refine thn (hp.run pins s1 σ H1 R I1 q1) fun f s2 q => ?_
    cases f with
    | ret u => exact q
    | next => exact q.elim
    | brk => exact q.elim
    | cont => exact q.elim
  | false => exact wpAny_execs_nil (hr.run pins s1 σ H1 R I1 q1)
end
/-! ### the maker's end -/
/-- from H' to H'': the frame's cells are tracked -/
structure Esc (N : List Str) (scope : Scope) (cells : List (Str × Addr)) (σ : L2.St) (H' H'' : Hp) : Prop where
  le : Le H' H''
  none : ∀ x c, cells.lookup x = some c → H' c = none
  all : ∀ x c, cells.lookup x = some c → ∃ v, H'' c = some (CellO c v)
  inj : ∀ x y c, cells.lookup x = some c → cells.lookup y = some c → x = y
  cell : ∀ (i : Nat) x v, N[i]? = some x → scope.names.lookup x = some .cell → σ[i]? = some (some v) → ∃ c u, cells.lookup x = some c ∧ L2.RelV v u ∧ H'' c = some (CellO c (some u))
/-- the cells into the abstract heap, what they hold by h -/
noncomputable def cellsIn (cells : List (Str × Addr)) (h : Heap) (H : Hp) : Hp := fun b =>
  open Classical in if q : (∃ x, cells.lookup x = some b) ∧ ∃ v, h.IsCell b v then some (CellO b q.2.choose) else H b
theorem isCell_inj {h : Heap} {c : Addr} {v v' : Option Value} (a : h.IsCell c v) (b : h.IsCell c v') : v = v' := by
  obtain ⟨o, e, d⟩ := a
  obtain ⟨o', e', d'⟩ := b
  rw [e] at e'
  cases e'
  rw [d] at d'
  cases d'
  rfl
theorem cellsIn_at {cells : List (Str × Addr)} {h : Heap} {H : Hp} {x : Str} {c : Addr} {v : Option Value} (e : cells.lookup x = some c) (z : h.IsCell c v) : cellsIn cells h H c = some (CellO c v) := by
  unfold cellsIn
  have q : (∃ x, cells.lookup x = some c) ∧ ∃ v, h.IsCell c v := ⟨⟨x, e⟩, v, z⟩
  rw [dif_pos q, isCell_inj q.2.choose_spec z]
theorem cellsIn_else {cells : List (Str × Addr)} {h : Heap} {H : Hp} {b : Addr} (n : ¬ ∃ x, cells.lookup x = some b) : cellsIn cells h H b = H b := by
  unfold cellsIn
  exact dif_neg fun q => n q.1
section
variable {P : Program} {w : World} {K : PySem.W.Frag} {mg : Str → Option Value} {base : Heap}
theorem esc_end {X : Cx} {σ : L2.St} {H' : Hp} {s' : Shared} (I : Inv X [] σ H' s') (hx : X.ex = []) (hab : ∀ x c, X.env.cells.lookup x = some c → X.s_0.heap.objs.size ≤ c) :
    ∃ H'', Esc X.N X.env.scope X.env.cells σ H' H'' ∧ Un X.fs [] X.H_0 H'' X.s_0.heap s'.heap ∧ HOk X.prog X.w H'' s'.heap := by
  have at_ : ∀ x c, X.env.cells.lookup x = some c → ∃ v, s'.heap.IsCell c v ∧ cellsIn X.env.cells s'.heap H' c = some (CellO c v) := fun x c e => by
    obtain ⟨v, z⟩ := I.cell x c e
    exact ⟨v, z, cellsIn_at e z⟩
  have keep : ∀ b o, H' b = some o → cellsIn X.env.cells s'.heap H' b = some o := fun b o e => by
    rw [cellsIn_else fun ⟨x, z⟩ => by rw [I.freeC x b z] at e; cases e]
    exact e
  have back : ∀ b, (∃ x, X.env.cells.lookup x = some b) ∨ cellsIn X.env.cells s'.heap H' b = H' b := fun b => by
    by_cases q : ∃ x, X.env.cells.lookup x = some b
    · exact .inl q
    · exact .inr (cellsIn_else q)
  refine ⟨cellsIn X.env.cells s'.heap H', ⟨keep, fun x c e => I.freeC x c e, fun x c e => ?_, I.ok.inj, fun i x v e1 e2 e3 => ?_⟩, ?_, fun b o e => ?_⟩
  · obtain ⟨v, _, z⟩ := at_ x c e
    exact ⟨v, z⟩
  · obtain ⟨m, hn, hl⟩ := I.loc
    obtain ⟨u, r, l⟩ := hl i x v e1 e3 (.inr (.inl e2))
    rcases l with ⟨z, _⟩ | ⟨_, c, hc, hcell⟩
    · have z' : X.env.scope.names.lookup x = some .local := z
      rw [e2] at z'
      cases z'
    · exact ⟨c, u, hc, r, cellsIn_at hc hcell⟩
  · have u := I.base
    rw [hx] at u
    refine ⟨u.keep, u.slot, fun b o e n hb => ?_, u.there, fun b xs e => keep b _ (u.tups b xs e), fun b o xs e => keep b _ (u.frzs b o xs e), fun b ps e => ?_⟩
    · rcases back b with ⟨x, z⟩ | z
      · exact absurd (Heap.lt_size e) (Nat.not_lt.mpr (hab x b z))
      · rw [z]
        exact u.free b o e n hb
    · obtain ⟨more, z⟩ := u.tbls b ps e
      exact ⟨more, keep b _ z⟩
  · by_cases q : ∃ x, X.env.cells.lookup x = some b
    · obtain ⟨x, z⟩ := q
      obtain ⟨v, z1, z2⟩ := at_ x b z
      rw [z2] at e
      cases e
      exact cellO_ok z1
    · rw [cellsIn_else q] at e
      exact (I.hok b o e).stay (fun _ _ _ k => k) (fun c z => keep c _ z) fun c xs z => keep c _ z
/-- a def that gives back functions -/
theorem fn_esc {x qual : Str} {st : Stmt} {f : Addr} {fd : FuncData} {N ps : List Str} {k : Nat} {sp : Sp} (F : C8.Fun K x qual st f fd) (S : FnScope N ps (fnScope st)) (len : ∀ vs H Q E, sp vs H Q E → vs.length = ps.length)
    (hbody : ∀ (cdv : Value) (A : Around) (outer : List Env) (s : Shared) (H : Hp) (vs : List V) (Q : VK) (E : XK), Room k (A.deeper (envOfC qual (fnScope st) s.heap.objs.size f cdv)) → fd.code = cdv → sp vs H Q E →
      ∃ t, PXs (cxOf C8.CX0 P w K mg base N qual (fnScope st) f cdv A outer s H E).nox (fnBody st) t ∧ t (fun σ v H' => ∀ H'', Esc N (fnScope st) (cellsFrom (s.heap.objs.size + 1) (fnScope st).names []) σ H' H'' → Q v H'') (start N vs) H) : FnOk P w K mg base C8.CX0 (k + 1) f fd ps sp := by
  obtain ⟨oc, od, dV, kV, doc, pm, an, cdv, ct, osl, rfl, lk, hcd⟩ := F.ex
  refine ⟨len, fun A outer s H args us vs Q E hr e0 hb r hsp => ?_⟩
  have hl := len _ _ _ _ hsp
  have KX : K.In s.heap := e0.mod.kin.keeps fun b o e => (e0.bs b o e).1
  have lim : s.heap.NoLimit := e0.mod.nolimit.keeps fun b o e => (e0.bs b o e).1
  have hkind : ∀ y ∈ ps.zip us, (fnScope st).names.lookup y.1 = some .local ∨ ((fnScope st).names.lookup y.1 = some .cell ∧ ((cellsFrom (s.heap.objs.size + 1) (fnScope st).names []).lookup y.1).isSome = true) := fun ⟨n, v⟩ hy => by
    rcases S.par n (List.of_mem_zip hy).1 with q | q
    · exact .inl q
    · exact .inr ⟨q, PySem.W.cellsFrom_some _ _ _ (.inl q)⟩
  refine codeAny_call_function hr.depth (KX _ _ lk) rfl S.co S.gen rfl (PySem.W.codeRec_of KX hcd) (hb _ _ _ _ ?_)
  refine wpAny_newFunctionEnv_cells S.kind hkind fun env he s1 x => ?_
  subst he
  refine ⟨lim.keeps x.toInCall.keep, codeAny_func ?_⟩
  obtain ⟨t, ht, hq⟩ := hbody cdv A outer s H vs Q E (hr.deeper _) rfl hsp
  have I : Inv (cxOf C8.CX0 P w K mg base N qual (fnScope st) f cdv A outer s H E) [] (start N vs) H s1 := inv_start S hr.hd e0 hl r x
  refine wpAny_mono (ht.nox.run [] s1 (start N vs) H _ I hq) (fun fl s' hs => ?_) fun e s' hs => hs
  cases fl with
  | ret u =>
    obtain ⟨v, σ', H', J, rv, q⟩ := hs
    obtain ⟨H'', es, un, ok⟩ := esc_end J rfl fun y c e => Nat.le_of_lt (x.above y c (PySem.mem_of_lookup e))
    exact ⟨v, H'', J.os, J.bare, un, ok, rv, q H'' es⟩
  | next => exact hs.elim
  | brk => exact hs.elim
  | cont => exact hs.elim
theorem cal_esc {x : Str} {st : Stmt} {f : Addr} {fd : FuncData} {N ps : List Str} {ds : List Value} {dvs : List V} {k : Nat} {sp : Sp} (F : Def K mg x st f fd) (b : Binds K fd ps ds) (d : Vals dvs ds) (S : FnScope N ps (fnScope st)) (len : ∀ vs H Q E, sp vs H Q E → vs.length = ps.length)
    (hbody : ∀ (cdv : Value) (A : Around) (outer : List Env) (s : Shared) (H : Hp) (vs : List V) (Q : VK) (E : XK), Room k (A.deeper (envOfC x (fnScope st) s.heap.objs.size f cdv)) → fd.code = cdv → sp vs H Q E →
      ∃ t, PXs (cxOf C8.CX0 P w K mg base N x (fnScope st) f cdv A outer s H E).nox (fnBody st) t ∧ t (fun σ v H' => ∀ H'', Esc N (fnScope st) (cellsFrom (s.heap.objs.size + 1) (fnScope st).names []) σ H' H'' → Q v H'') (start N vs) H) : Cal P w K mg base (k + 1) x sp dvs :=
  ⟨f, fd, ps, ds, fn_esc F.fn S len hbody, F.mgf, F.kp, b, d⟩
/-! ### the function behind its maker's end -/
/-- what a nested function with the captured values W promises: it answers g -/
def spC (W : List (Option V)) (S0 : List Addr) (H0 : Hp) (g : List V → Option V) : List (Option V) → Sp := fun ws vs H Q _ => ws = W ∧ (∀ a ∈ S0, H a = H0 a) ∧ ∃ r, g vs = some r ∧ Q r H
theorem cls_of {k : Nat} {p : Addr} {F : NF} {ps fr : List Str} {W : List (Option V)} {S0 : List Addr} {H : Hp} {g : List V → Option V} (Fn : NOk P w K mg base C8.CX0 k p F ps fr (spC W S0 H g)) (hp : H p = some (FnO p F)) (hc : H F.c = some (CodeO F.c F.qual))
    (hall : ∀ y c, F.cl.lookup y = some c → ∃ v, H c = some (CellO c v)) (inj : ∀ x y c, F.cl.lookup x = some c → F.cl.lookup y = some c → x = y)
    (has : ∀ (i : Nat) (y : Str), fr[i]? = some y → ∃ c, F.cl.lookup y = some c ∧ ∀ v, W[i]? = some (some v) → ∃ u, L2.RelV v u ∧ H c = some (CellO c (some u))) (hl : W.length = fr.length)
    (hS : ∀ a ∈ S0, (∀ y, F.cl.lookup y ≠ some a) ∧ ∃ o, H a = some o ∧ Kd o) (npc : ∀ y, F.cl.lookup y ≠ some p) (nfc : ∀ y, F.cl.lookup y ≠ some F.c) : ∃ S, ClS P w K mg base k S H p g ∧ ∀ a ∈ S, a ∈ S0 ∨ ∃ φ : Heap → Prop, H a = some (.ext φ) := by
  classical
  let C : List Addr := (F.cl.map (·.1)).filterMap fun y => F.cl.lookup y
  have hC : ∀ a, a ∈ C ↔ ∃ y, F.cl.lookup y = some a := fun a => by
    constructor
    · intro h
      obtain ⟨y, _, e⟩ := List.mem_filterMap.mp h
      exact ⟨y, e⟩
    · rintro ⟨y, e⟩
      exact List.mem_filterMap.mpr ⟨y, List.mem_map.mpr ⟨(y, a), PySem.mem_of_lookup e, rfl⟩, e⟩
  refine ⟨p :: F.c :: (C ++ S0), ⟨List.mem_cons_self, fun a ha => ?_, ⟨_, hp, ?_⟩, fun H' ag A outer s us vs r hr e0 hv hg => ?_⟩, fun a ha => ?_⟩
  rotate_right
  · rcases List.mem_cons.mp ha with rfl | ha
    · exact .inr ⟨_, hp⟩
    rcases List.mem_cons.mp ha with rfl | ha
    · exact .inr ⟨_, hc⟩
    rcases List.mem_append.mp ha with ha | ha
    · obtain ⟨y, e⟩ := (hC a).mp ha
      obtain ⟨v, q⟩ := hall y a e
      exact .inr ⟨_, q⟩
    · exact .inl ha
  · rcases List.mem_cons.mp ha with rfl | ha
    · exact ⟨_, hp, True.intro⟩
    rcases List.mem_cons.mp ha with rfl | ha
    · exact ⟨_, hc, True.intro⟩
    rcases List.mem_append.mp ha with ha | ha
    · obtain ⟨y, e⟩ := (hC a).mp ha
      obtain ⟨v, q⟩ := hall y a e
      exact ⟨_, q, True.intro⟩
    · exact (hS a ha).2
  · exact ⟨_, rfl, fun h ⟨od, sl, doc, pm, ctv, z⟩ => ⟨_, od, _, sl, z⟩⟩
  · let Hm : Hp := fun a => if a ∈ C then none else H' a
    have agP : H' p = some (FnO p F) := (ag p List.mem_cons_self).trans hp
    have agC : ∀ y c, F.cl.lookup y = some c → H' c = H c := fun y c e => ag c (List.mem_cons_of_mem _ (List.mem_cons_of_mem _ (List.mem_append_left _ ((hC c).mpr ⟨y, e⟩))))
    have mOut : ∀ a, a ∉ C → Hm a = H' a := fun a n => if_neg n
    have mIn : ∀ a, a ∈ C → Hm a = none := fun a n => if_pos n
    have mSome : ∀ a o, Hm a = some o → H' a = some o := fun a o e => by
      by_cases q : a ∈ C
      · rw [mIn a q] at e; cases e
      · rw [← mOut a q]; exact e
    have mNone : ∀ a, H' a = none → Hm a = none := fun a e => by
      by_cases q : a ∈ C
      · exact mIn a q
      · rw [mOut a q]; exact e
    have cellH : ∀ a, a ∈ C → ∃ v, H' a = some (CellO a v) := fun a q => by
      obtain ⟨y, e⟩ := (hC a).mp q
      obtain ⟨v, z⟩ := hall y a e
      exact ⟨v, (agC y a e).trans z⟩
    have hokm : HOk P w Hm s.heap := fun a o e => by
      refine (e0.hok a o (mSome a o e)).stay (fun _ _ _ q => q) (fun b q => ?_) fun b xs q => ?_
      · rw [mOut b fun z => by obtain ⟨v, z⟩ := cellH b z; rw [q] at z; cases z]
        exact q
      · rw [mOut b fun z => by obtain ⟨v, z⟩ := cellH b z; rw [q] at z; cases z]
        exact q
    have e0m : Env0 P w K mg base A outer s Hm := ⟨e0.frames, e0.mod, fun b o e => ⟨(e0.bs b o e).1, mNone b (e0.bs b o e).2⟩, e0.bsz, e0.funs, fun b hb => mNone b (e0.frf b hb), hokm, e0.bare⟩
    have hpm : Hm p = some (FnO p F) := by
      rw [mOut p fun z => by obtain ⟨y, e⟩ := (hC p).mp z; exact npc y e]
      exact agP
    have hcm : Hm F.c = some (CodeO F.c F.qual) := by
      rw [mOut F.c fun z => by obtain ⟨y, e⟩ := (hC F.c).mp z; exact nfc y e]
      exact (ag F.c (List.mem_cons_of_mem _ List.mem_cons_self)).trans hc
    have cat : CellsAt F.cl fr W s.heap Hm := by
      refine ⟨hl, fun y c e => ?_, inj, fun i y e => ?_⟩
      · obtain ⟨v, z⟩ := cellH c ((hC c).mpr ⟨y, e⟩)
        exact ⟨mIn c ((hC c).mpr ⟨y, e⟩), v, cellO_at e0.hok z⟩
      · obtain ⟨c, hc', hv'⟩ := has i y e
        refine ⟨c, hc', fun v ev => ?_⟩
        obtain ⟨u, r', z⟩ := hv' v ev
        exact ⟨u, r', cellO_at e0.hok ((agC y c hc').trans z)⟩
    refine codeAny_mono (Fn.run A outer s Hm us vs W (fun v H2 => v = r ∧ H2 = Hm) C8.E0 hr e0m hpm hcm cat hv ⟨rfl, fun a ha => ?_, r, hg, rfl, rfl⟩) fun rr s' hq => ?_
    · rw [mOut a fun z => by obtain ⟨y, e⟩ := (hC a).mp z; exact (hS a ha).1 y e]
      exact ag a (List.mem_cons_of_mem _ (List.mem_cons_of_mem _ (List.mem_append_right _ ha)))
    · cases rr with
      | error e => exact hq
      | ok fl =>
        cases fl with
        | ret u =>
          obtain ⟨v, H2, os, bare, un, hok2, rv, ev, eH⟩ := hq
          subst eH
          refine ⟨v, H', os, bare, ⟨fun b o e n => un.keep b o e (mNone b n), fun b o e n => un.slot b o e (mNone b n), fun b o e n _ => n, un.there, fun _ _ e => e, fun _ _ _ e => e, fun b ps e => ⟨#[], by rw [e]; simp⟩⟩, fun a o e => ?_, rv, ev, rfl⟩
          by_cases q : a ∈ C
          · obtain ⟨v2, z⟩ := cellH a q
            rw [z] at e
            cases e
            have ic := cellO_at e0.hok z
            obtain ⟨ob, eo, ed⟩ := ic
            refine cellO_ok ⟨ob, un.keep a ob eo (mIn a q) (fun hb => ?_) (by simp), ed⟩
            have := e0.frf a hb
            rw [z] at this
            cases this
          · have e2 : Hm a = some o := by rw [mOut a q]; exact e
            exact (hok2 a o e2).stay (fun _ _ _ q => q) (fun b q => mSome b _ q) fun b xs q => mSome b _ q
        | next => exact hq
        | brk => exact hq
        | cont => exact hq
/-- .. from the maker's end -/
theorem esc_clsS {N fr : List Str} {sc : Scope} {cells : List (Str × Addr)} {σ : L2.St} {H' H'' : Hp} {n k : Nat} {st : Stmt} {name q : Str} {c' p : Addr} {ps : List Str} {js : List Nat} {S0 : List Addr} {g : List V → Option V}
    (es : Esc N sc cells σ H' H'') (hB : ndefB sc (C8.fnScope st) fr = true) (hnf : ∀ y ∈ sc.names, y.2 ≠ .free) (hcs : cells = cellsFrom n sc.names []) (hjs : js.map (fun j => N[j]?) = fr.map some)
    (Fn : NOk P w K mg base C8.CX0 k p (NF.of st name q (cloFrom cells (C8.fnScope st).names []) c') ps fr (spC (js.map (slotAt σ)) S0 H'' g))
    (hp : H' p = some (FnO p (NF.of st name q (cloFrom cells (C8.fnScope st).names []) c'))) (hc : H' c' = some (CodeO c' q)) (hS : ∀ a ∈ S0, ∃ o, H' a = some o ∧ Kd o) : ∃ S, ClS P w K mg base k S H'' p g ∧ ∀ a ∈ S, a ∈ S0 ∨ ∃ φ : Heap → Prop, H'' a = some (.ext φ) := by
  have hk : ∀ y, sc.names.lookup y = some .cell ∨ sc.names.lookup y = some .free → sc.names.lookup y = some .cell := fun y h => h.elim id fun z => absurd rfl (hnf _ (PySem.mem_of_lookup z))
  have hfree : ∀ y ∈ (C8.fnScope st).names, y.2 = .free → ∃ c, cells.lookup y.1 = some c := fun y hy e => by
    rw [hcs]
    exact cell_has (hk _ (ndef_free hB y hy e))
  have none_ : ∀ {a : Addr} {o : HO}, H' a = some o → ∀ y, (cloFrom cells (C8.fnScope st).names []).lookup y ≠ some a := fun {a o} e y z => by
    rw [es.none y a (clo_cm hfree z)] at e
    cases e
  refine cls_of Fn (es.le _ _ hp) (es.le _ _ hc) (fun y c e => es.all y c (clo_cm hfree e)) (fun x y c e1 e2 => es.inj x y c (clo_cm hfree e1) (clo_cm hfree e2)) (fun i y e => ?_) ?_ (fun a ha => ?_) (none_ hp) (none_ hc)
  · have e2 : (js.map fun j => N[j]?)[i]? = some (some y) := by
      rw [hjs, List.getElem?_map, e] <;> rfl
    rw [List.getElem?_map] at e2
    cases ej : js[i]? with
    | none =>
      rw [ej] at e2
      cases e2
    | some j =>
      rw [ej] at e2
      have hj : N[j]? = some y := Option.some.inj (show some (N[j]?) = some (some y) from e2)
      have hy := ndef_fr hB y (List.mem_of_getElem? e)
      have hcell := hk y (ndef_free hB (y, .free) hy rfl)
      obtain ⟨c, hc'⟩ := hfree (y, .free) hy rfl
      have hc' : cells.lookup y = some c := hc'
      refine ⟨c, clo_has hfree hy hc', fun v ev => ?_⟩
      rw [List.getElem?_map, ej] at ev
      have ev2 : σ[j]? = some (some v) := slotAt_some (Option.some.inj (show some (slotAt σ j) = some (some v) from ev))
      obtain ⟨c2, u, h1, h2, h3⟩ := es.cell j y v hj hcell ev2
      rw [hc'] at h1
      cases h1
      exact ⟨u, h2, h3⟩
  · have q := congrArg List.length hjs
    rw [List.length_map, List.length_map] at q
    rw [List.length_map]
    exact q
  · obtain ⟨o, e, kd⟩ := hS a ha
    exact ⟨none_ e, o, es.le _ _ e, kd⟩
theorem esc_cls {N fr : List Str} {sc : Scope} {cells : List (Str × Addr)} {σ : L2.St} {H' H'' : Hp} {n k : Nat} {st : Stmt} {name q : Str} {c' p : Addr} {ps : List Str} {js : List Nat} {S0 : List Addr} {g : List V → Option V}
    (es : Esc N sc cells σ H' H'') (hB : ndefB sc (C8.fnScope st) fr = true) (hnf : ∀ y ∈ sc.names, y.2 ≠ .free) (hcs : cells = cellsFrom n sc.names []) (hjs : js.map (fun j => N[j]?) = fr.map some)
    (Fn : NOk P w K mg base C8.CX0 k p (NF.of st name q (cloFrom cells (C8.fnScope st).names []) c') ps fr (spC (js.map (slotAt σ)) S0 H'' g))
    (hp : H' p = some (FnO p (NF.of st name q (cloFrom cells (C8.fnScope st).names []) c'))) (hc : H' c' = some (CodeO c' q)) (hS : ∀ a ∈ S0, ∃ o, H' a = some o ∧ Kd o) : ClAt P w K mg base k H'' p g := by
  obtain ⟨S, h, _⟩ := esc_clsS es hB hnf hcs hjs Fn hp hc hS
  exact ⟨S, h⟩
theorem esc_clsE {N fr : List Str} {sc : Scope} {cells : List (Str × Addr)} {σ : L2.St} {H' H'' : Hp} {n k : Nat} {st : Stmt} {name q : Str} {c' p : Addr} {ps : List Str} {js : List Nat} {S0 : List Addr} {g : List V → Option V}
    (es : Esc N sc cells σ H' H'') (hB : ndefB sc (C8.fnScope st) fr = true) (hnf : ∀ y ∈ sc.names, y.2 ≠ .free) (hcs : cells = cellsFrom n sc.names []) (hjs : js.map (fun j => N[j]?) = fr.map some)
    (Fn : NOk P w K mg base C8.CX0 k p (NF.of st name q (cloFrom cells (C8.fnScope st).names []) c') ps fr (spC (js.map (slotAt σ)) S0 H'' g))
    (hp : H' p = some (FnO p (NF.of st name q (cloFrom cells (C8.fnScope st).names []) c'))) (hc : H' c' = some (CodeO c' q)) (hS : ∀ a ∈ S0, ∃ φ : Heap → Prop, H' a = some (.ext φ)) : ClAtE P w K mg base k H'' p g := by
  obtain ⟨S, h, e⟩ := esc_clsS es hB hnf hcs hjs Fn hp hc fun a ha => by
    obtain ⟨φ, z⟩ := hS a ha
    exact ⟨_, z, True.intro⟩
  refine ⟨S, h, fun a ha => (e a ha).elim (fun z => ?_) id⟩
  obtain ⟨φ, q⟩ := hS a z
  exact ⟨φ, es.le _ _ q⟩
end
end Od
end
section
set_option Elab.async false
set_option linter.all false
set_option maxRecDepth 100000
set_option maxHeartbeats 2000000
set_option autoImplicit false
/-! the law's own look at a written form: a function that is given back -/
namespace Od
open PySem PySem.Spec PyProof.Rows L2 C8 Day NdefX LamX
abbrev s__law_days : Stmt := top 33
abbrev N__law_days : List Str := ["_law_words", "_law_left", "_law_low", "_law_middle", "_law_right", "_law_has_day"]
abbrev P__law_days : List Str := ["_law_words"]
theorem sc__law_days : FnScope N__law_days P__law_days (C8.fnScope s__law_days) := fnScope_by (by decide +kernel)
abbrev s__law_has_day : Stmt := inDef s__law_days 2
abbrev N__law_has_day : List Str := ["_law_n", "_law_left", "_law_low", "_law_middle", "_law_right"]
abbrev P__law_has_day : List Str := ["_law_n"]
abbrev FR__law_has_day : List Str := ["_law_left", "_law_low", "_law_middle", "_law_right"]
theorem sc__law_has_day : NdefX.NScope N__law_has_day P__law_has_day FR__law_has_day (C8.fnScope s__law_has_day) := NdefX.nscope_by (by decide +kernel)
theorem nb__law_has_day : NdefX.ndefB (C8.fnScope s__law_days) (C8.fnScope s__law_has_day) FR__law_has_day = true := by decide +kernel
/-- a function of days -/
def gB (f : Int → Bool) : List V → Option V
  | [.int n] => some (.bl (f n))
  | _ => none
theorem gB_some {f : Int → Bool} {vs : List V} {r : V} (h : gB f vs = some r) : ∃ n, vs = [.int n] ∧ r = .bl (f n) := by
  unfold gB at h
  split at h
  · exact ⟨_, rfl, (Option.some.inj h).symm⟩
  · cases h
theorem sg_one (b : Bool) : decide (V.str ⟨#[sg b]⟩ = V.str ("1" : Str)) = b := by cases b <;> decide +kernel
theorem back_mod {L a : Int} (h : 0 < L) : L - 1 - (-a - 1) % L = a % L := by
  have e := Int.emod_add_mul_ediv a L
  have m0 := Int.emod_nonneg a (show L ≠ 0 by omega)
  have m1 := Int.emod_lt_of_pos a h
  have e2 : -a - 1 = (L - 1 - a % L) + L * (-(a / L) - 1) := by
    rw [Int.mul_sub, Int.mul_neg, Int.mul_one]
    generalize L * (a / L) = t at *
    omega
  rw [e2, Int.add_mul_emod_self_left, Int.emod_eq_of_lt (by omega) (by omega)]
  omega
theorem mid_if {m : List Bool} {σ : L2.St} {H : Hp} {Qk : VK} (hσ : σ[3]? = some (some (.str (midS m)))) (h : Qk (.str (rowS m)) H) : if decide (V.str (midS m) = V.str ("-" : Str)) = true then tC (.str ("" : Str)) σ H Qk else tVar 3 σ H Qk := by
  by_cases hm : m = []
  · subst hm
    rw [if_pos (by decide)]
    exact h
  · have em : midS m = rowS m := by unfold midS; rw [if_neg hm]
    rw [em] at hσ ⊢
    rw [if_neg]
    · exact ⟨_, hσ, h⟩
    · intro e
      have e := of_decide_eq_true e
      have e2 : (rowS m).cps.toList = ("-" : Str).cps.toList := by
        have : rowS m = ("-" : Str) := by injection e
        rw [this]
      rw [rowS_tl] at e2
      cases m with
      | nil => exact hm rfl
      | cons b l =>
        have e3 : sg b = 45 := by
          have : (("-" : Str).cps.toList) = [45] := by decide +kernel
          rw [this, List.map_cons] at e2
          injection e2
        cases b <;> exact absurd e3 (by decide)
theorem tabs_lx {T : List NTab} {H H' : Hp} {d dl : Addr} {n : Int} (t : TabsN T H) (l : LeX d H H') (pn : IsPen H d dl n) : TabsN T H' := fun q hq => by
  obtain ⟨kvs, e⟩ := pn.dict
  obtain ⟨ps, h1, h2, h3⟩ := t q hq
  refine ⟨ps, l _ _ (fun c => ?_) h1, h2, fun pos cv hc => ?_⟩
  · rw [c, e] at h1; cases h1
  · obtain ⟨c, e1, e2⟩ := h3 pos cv hc
    refine ⟨c, e1, l _ _ (fun z => ?_) e2⟩
    rw [z, e] at e2; cases e2
theorem IsPen.n {H H' : Hp} {d dl : Addr} {n : Int} (p : IsPen H d dl n) (l : ExtN H H') : IsPen H' d dl n := by
  obtain ⟨cells, t, x, h1, h2, h3⟩ := p
  exact ⟨cells, t, x, l _ _ h1 (fun ps e => by cases e), l _ _ h2 (fun ps e => by cases e), h3⟩
theorem IsDay.n {C p : Addr} {H H' : Hp} {f : Int → Bool} (h : IsDay C H p f) (l : ExtN H H') : IsDay C H' p f := by
  obtain ⟨F, dx, L, z, m, e⟩ := h
  exact ⟨F, dx, L, z, m, l _ _ e fun ps q => by cases q⟩
/-- all but the pen and the tables stands -/
def EX (d : Addr) (H H' : Hp) : Prop := ∀ a o, a ≠ d → (∀ ps, o ≠ .tbl ps) → H a = some o → H' a = some o
theorem EX.refl {d : Addr} {H : Hp} : EX d H H := fun _ _ _ _ h => h
theorem EX.tr {d : Addr} {H H1 H2 : Hp} (a : EX d H H1) (b : EX d H1 H2) : EX d H H2 := fun x o c n h => b x o c n (a x o c n h)
theorem Le.ex {d : Addr} {H H' : Hp} (l : Le H H') : EX d H H' := fun a o _ _ h => l a o h
theorem LeX.ex {d : Addr} {H H' : Hp} (l : LeX d H H') : EX d H H' := fun a o c _ h => l a o c h
theorem extN_ex {d : Addr} {H H' : Hp} (l : ExtN H H') : EX d H H' := fun a o _ n h => l a o h n
theorem IsDay.ex {C p d dl : Addr} {n : Int} {H H' : Hp} {f : Int → Bool} (h : IsDay C H p f) (l : EX d H H') (pn : IsPen H d dl n) : IsDay C H' p f := by
  obtain ⟨F, dx, L, z, m, e⟩ := h
  refine ⟨F, dx, L, z, m, l _ _ (fun c => ?_) (fun ps q => by cases q) e⟩
  obtain ⟨kvs, e2⟩ := pn.dict
  rw [c, e2] at e
  cases e
theorem pen_kd {H : Hp} {d dl : Addr} {n : Int} (pn : IsPen H d dl n) : ∀ o, H d = some o → ¬ Kd o := fun o e k => by
  obtain ⟨cells, t, l, h1, _⟩ := pn
  rw [h1] at e
  cases e
  obtain ⟨i, e2⟩ := k (.inr "cells", .ref dl) List.mem_cons_self
  cases e2
theorem ClAtE.ex {P : Program} {w : World} {K : PySem.W.Frag} {mg : Str → Option Value} {base : Heap} {k : Nat} {H H' : Hp} {p d dl : Addr} {n : Int} {g : List V → Option V} (c : ClAtE P w K mg base k H p g) (l : EX d H H') (pn : IsPen H d dl n) : ClAtE P w K mg base k H' p g := c.gen fun a φ e => l a _ (fun z => by
    obtain ⟨kvs, e2⟩ := pn.dict
    rw [z, e2] at e
    cases e) (fun ps z => by cases z) e
theorem ClAt.ex {P : Program} {w : World} {K : PySem.W.Frag} {mg : Str → Option Value} {base : Heap} {k : Nat} {H H' : Hp} {p d dl : Addr} {n : Int} {g : List V → Option V} (c : ClAt P w K mg base k H p g) (l : EX d H H') (pn : IsPen H d dl n) : ClAt P w K mg base k H' p g := by
  obtain ⟨S, c⟩ := c
  refine ⟨S, c.of fun a ha => ?_⟩
  obtain ⟨o, e, q⟩ := c.2.1 a ha
  rw [e, l a o (fun z => pen_kd pn o (z ▸ e) q) (fun ps z => by subst z; exact q) e]
theorem tabs_lst {T : List NTab} {H H' : Hp} {D : Addr} {acc : List V} (t : TabsN T H) (l : LeX D H H') (hD : H D = some (.lst acc)) : TabsN T H' := fun q hq => by
  obtain ⟨ps, h1, h2, h3⟩ := t q hq
  refine ⟨ps, l _ _ (fun c => by rw [c, hD] at h1; cases h1) h1, h2, fun pos cv hc => ?_⟩
  obtain ⟨c, e1, e2⟩ := h3 pos cv hc
  exact ⟨c, e1, l _ _ (fun z => by rw [z, hD] at e2; cases e2) e2⟩
/-- the text of a form, as read takes it -/
theorem words_len {F : Frm} {b : Nat} (h1 : F.l.length ≤ b) (h2 : F.m.length ≤ b) (h3 : F.r.length ≤ b) (h4 : F.low.natAbs < 10 ^ 8) : (Txt.join (" " : Str) (words4 F.l F.low F.m F.r)).length ≤ 4 * (3 * b + 15) := by
  have h8 : (numS F.low).length ≤ 9 := numS_len (by decide) h4
  have h9 : (midS F.m).length ≤ b + 1 := by
    unfold midS
    split
    · have : (("-" : Str)).length = 1 := by decide +kernel
      omega
    · rw [rowS_len]; omega
  refine Nat.le_trans (len_join_le (n := 3 * b + 14) ?_ (by decide +kernel)) (by omega)
  show ((words4 F.l F.low F.m F.r).map (·.length)).sum + (words4 F.l F.low F.m F.r).length ≤ 3 * b + 14 + 1
  simp only [words4, List.map_cons, List.map_nil, List.sum_cons, List.sum_nil, List.length_cons, List.length_nil, rowS_len]
  omega
def nmD : Nat → Nat → Str := fun _ _ => "_law_days.<locals>._law_has_day"
section
variable {P : Program} {w : World} {K : PySem.W.Frag} {mg : Str → Option Value} {base : Heap}
def wD (l : List Bool) (z : Int) (m r : List Bool) : List (Option V) := [some (.str (rowS l)), some (.int z), some (.str (rowS m)), some (.str (rowS r))]
theorem n_has (T : Txt K mg) {l m r : List Bool} {z : Int} (l0 : l ≠ []) (r0 : r ≠ []) (ll : l.length ≤ 1000) (lm : m.length ≤ 1000) (lr : r.length ≤ 1000) {p c : Addr} {q : Str} {cl : List (Str × Addr)} {H0 : Hp} :
    NOk P w K mg base C8.CX0 1 p (NF.of s__law_has_day "_law_has_day" q cl c) P__law_has_day FR__law_has_day (spC (wD l z m r) [] H0 (gB (Frm.mk l z m r).mem)) := by
  refine nok_of sc__law_has_day (fun doc pm ctv us hl => match us, hl with | [_], _ => rfl) (fun ws vs H Q E h => ?_) (fun A outer s H vs ws Q E hr hf hc hl h => ?_)
  · obtain ⟨_, _, _, h, _⟩ := h
    obtain ⟨n, rfl, _⟩ := gB_some h
    rfl
  obtain ⟨rfl, _, y, h, qq⟩ := h
  obtain ⟨n, rfl, rfl⟩ := gB_some h
  have nd := sc__law_has_day.nd
  refine ⟨_, (pss_cons (ps_if (pt_cmpR op_lt (pv 0) (pv 2) (nomark _)) (pss_one (ps_ret (pe_cmpR op_eq (pe_ix ix_str (pv 1) (pe_op op_sub (pe_op op_sub (pe_callB call_len_str (by rfl) T.b_len (by decide +kernel) (pa_cons (pv 1) pa_nil)) pe_int) (pe_op op_mod (pe_callTy call_int1 (by rfl) T.b_int (by decide +kernel) (pa_cons (pe_op op_sub (pe_op op_sub (pv 2) pe_int) (pv 0)) pa_nil)) (pe_callB call_len_str (by rfl) T.b_len (by decide +kernel) (pa_cons (pv 1) pa_nil)))) (fun _ _ => rfl)) pe_str (nomark _)))) pss_nil)
      (pss_cons (ps_if (pt_cmpR op_lt (pv 0) (pe_op op_add (pv 2) (pe_callB call_len_str (by rfl) T.b_len (by decide +kernel) (pa_cons (pv 3) pa_nil))) (nomark _)) (pss_one (ps_ret (pe_cmpR op_eq (pe_ix ix_str (pv 3) (pe_callTy call_int1 (by rfl) T.b_int (by decide +kernel) (pa_cons (pe_op op_sub (pv 0) (pv 2)) pa_nil)) (fun _ _ => rfl)) pe_str (nomark _)))) pss_nil)
      (pss_one (ps_ret (pe_cmpR op_eq (pe_ix ix_str (pv 4) (pe_op op_mod (pe_callTy call_int1 (by rfl) T.b_int (by decide +kernel) (pa_cons (pe_op op_sub (pe_op op_sub (pv 0) (pv 2)) (pe_callB call_len_str (by rfl) T.b_len (by decide +kernel) (pa_cons (pv 3) pa_nil))) pa_nil)) (pe_callB call_len_str (by rfl) T.b_len (by decide +kernel) (pa_cons (pv 4) pa_nil))) (fun _ _ => rfl)) pe_str (nomark _)))))), ?_⟩
  have sz : ∀ {l : List Bool}, l.length ≤ 1000 → (rowS l).length ≤ sizeLine := fun {l} h => by rw [rowS_len]; exact le_szl _ (by omega)
  refine ⟨_, rfl, _, rfl, _, _, rfl, rfl, _, rfl, ?_⟩
  refine ite2 (fun c1 => ?_) (fun c1 => ?_)
  · have c2 : n < z := of_decide_eq_true c1
    have hix : atI (rowS l).cps.toList (((rowS l).length : Int) - 1 - (z - 1 - n) % ((rowS l).length : Int)) = some (sg ((Frm.mk l z m r).mem n)) := by
      rw [Frm.mem_dn _ (show n < (Frm.mk l z m r).low from c2), rowS_len, show z - 1 - n = -(n - z) - 1 by omega, back_mod (by have := prim_len l0; omega)]
      exact rowS_cyc l0 _
    refine ⟨_, rfl, _, rfl, _, rfl, sz ll, _, _, rfl, rfl, _, rfl, _, _, rfl, rfl, _, rfl, _, _, rfl, rfl, .inl ⟨_, rfl, _, rfl, _, rfl, sz ll, _, _, rfl, rfl, posl l0, _, _, rfl, rfl, _, _, _, rfl, rfl, sz ll, hix, rfl, ?_⟩⟩
    show Q (V.bl (decide (V.str ⟨#[sg _]⟩ = V.str ("1" : Str)))) H
    rw [sg_one]
    exact qq
  have c2 : z ≤ n := by
    have : ¬ n < z := fun h => c1 (decide_eq_true h)
    omega
  refine ⟨_, rfl, _, rfl, _, rfl, _, rfl, sz lm, _, _, rfl, rfl, _, _, rfl, rfl, _, rfl, ?_⟩
  refine ite2 (fun c3 => ?_) (fun c3 => ?_)
  · have c4 : n < z + ((rowS m).length : Int) := of_decide_eq_true c3
    rw [rowS_len] at c4
    have hix : atI (rowS m).cps.toList (n - z) = some (sg ((Frm.mk l z m r).mem n)) := by
      rw [Frm.mem_mid _ (show (Frm.mk l z m r).low ≤ n from c2) (show n < (Frm.mk l z m r).high from c4)]
      have e : n - z = ((n - z).toNat : Int) := by omega
      rw [show n - (Frm.mk l z m r).low = n - z from rfl]
      conv => lhs; rw [e]
      exact rowS_at (by omega)
    refine ⟨_, rfl, _, rfl, _, rfl, _, _, rfl, rfl, .inl ⟨_, rfl, _, _, _, rfl, rfl, sz lm, hix, rfl, ?_⟩⟩
    show Q (V.bl (decide (V.str ⟨#[sg _]⟩ = V.str ("1" : Str)))) H
    rw [sg_one]
    exact qq
  have c4 : z + (m.length : Int) ≤ n := by
    have : ¬ n < z + ((rowS m).length : Int) := fun h => c3 (decide_eq_true h)
    rw [rowS_len] at this
    omega
  have hix : atI (rowS r).cps.toList ((n - z - ((rowS m).length : Int)) % ((rowS r).length : Int)) = some (sg ((Frm.mk l z m r).mem n)) := by
    rw [Frm.mem_up _ (show (Frm.mk l z m r).high ≤ n from c4), rowS_len, rowS_len]
    have := rowS_cyc r0 (n - z - (m.length : Int))
    rw [show n - z - (m.length : Int) = n - (Frm.mk l z m r).high by unfold Frm.high; show n - z - (m.length : Int) = n - (z + (m.length : Int)); omega] at this ⊢
    exact this
  refine ⟨_, rfl, _, rfl, _, rfl, _, _, rfl, rfl, _, rfl, _, rfl, sz lm, _, _, rfl, rfl, .inl ⟨_, rfl, _, rfl, _, rfl, sz lr, _, _, rfl, rfl, posl r0, _, _, _, rfl, rfl, sz lr, hix, rfl, ?_⟩⟩
  show Q (V.bl (decide (V.str ⟨#[sg _]⟩ = V.str ("1" : Str)))) H
  rw [sg_one]
  exact qq
def sp_days (P : Program) (w : World) (K : PySem.W.Frag) (mg : Str → Option Value) (base : Heap) (TT : List NTab) : Sp := fun vs H Q _ => ∃ (x : Addr) (l : List Bool) (z : Int) (m r : List Bool), vs = [.ref x] ∧ H x = some (.lst ((words4 l z m r).map V.str)) ∧ l ≠ [] ∧ r ≠ [] ∧ l.length ≤ 1000 ∧ m.length ≤ 1000 ∧ r.length ≤ 1000 ∧ z.natAbs < 10 ^ 8 ∧
  TabsN TT H ∧ ∀ p H', ExtN H H' → TabsN TT H' → H p = none → ClAtE P w K mg base 1 H' p (gB (Frm.mk l z m r).mem) → Q (.ref p) H'
theorem c_days {TT : List NTab} (T : Txt K mg) (F : DefOf K mg "_law_days" s__law_days P__law_days) (KB : K.In base) (GB : base.Ns mainGlobals mg) {c PT : Addr} (ht : PySem.W.tabIn K "_law_days" = some (c, PT)) (TB : TabB base mg c PT) (hm : (PT, nmD) ∈ TT) (hu : ∀ p ∈ TT, p.1 = PT → p.2 = nmD) : Cal P w K mg base 2 "_law_days" (sp_days P w K mg base TT) [] := by
  obtain ⟨f, fd, F, B⟩ := F
  have hfc : fd.code = .ref c := by
    obtain ⟨oc, od, dV, kV, doc, pm, an, cdv, ct, osl, rfl, lk, hcd⟩ := F.fn.ex
    exact PySem.W.law_code KB GB ht F.mgf (KB _ _ lk) rfl
  refine cal_esc F B .nil sc__law_days (fun vs H Q E h => by obtain ⟨_, _, _, _, _, rfl, _⟩ := h; rfl) (fun cdv A outer s H vs Q E hr hcdv h => ?_)
  obtain ⟨x, l, z, m, r, rfl, hx, l0, r0, ll, lm, lr, lz, hT, qq⟩ := h
  have hcode : cdv = .ref c := hcdv.symm.trans hfc
  have hn : ("_law_days.<locals>._law_has_day" : Str) = ("_law_days" : Str) ++ ".<locals>." ++ "_law_has_day" := by decide +kernel
  have nd := sc__law_days.nd
  refine ⟨_, (px_cons (ps_asg (pe_tup (pa_cons (pe_ix ix_list (pv 0) pe_int (fun _ _ => rfl)) (pa_cons (pe_callTy call_int_str (by rfl) T.b_int (by decide +kernel) (pa_cons (pe_ix ix_list (pv 0) pe_int (fun _ _ => rfl)) pa_nil)) (pa_cons (pe_ix ix_list (pv 0) pe_int (fun _ _ => rfl)) (pa_cons (pe_ix ix_list (pv 0) pe_int (fun _ _ => rfl)) pa_nil))))) (pg_tup rfl (pgs_cons (pg_name (i := 1) nd rfl (Or.inr rfl)) (pgs_cons (pg_name (i := 2) nd rfl (Or.inr rfl)) (pgs_cons (pg_name (i := 3) nd rfl (Or.inr rfl)) (pgs_cons (pg_name (i := 4) nd rfl (Or.inr rfl)) pgs_nil))))))
      (px_cons (ps_set (i := 3) nd rfl (Or.inr rfl) (pe_ifExp (pt_cmpR op_eq (pv 3) pe_str (nomark _)) pe_str (pv 3)))
      (px_cons (ps_ndefMS (st := s__law_has_day) (i := 5) rfl TB hcode hm hn hu (ndef_free nb__law_has_day) rfl rfl rfl nd rfl (Or.inl rfl) (Or.inr rfl))
      (px_ret (pv 5))))), ?_⟩
  have ix : ∀ (j : Nat) (y : Str), (words4 l z m r)[j]? = some y → ∃ (a : Addr) (xs : List V) (i : Int) (v : V), V.ref x = .ref a ∧ V.int (j : Nat) = .int i ∧ SqL K H a xs ∧ atI xs i = some v ∧ v = .str y := fun j y hy => by
    refine ⟨x, _, j, _, rfl, rfl, .of hx, atI_nat (j := j) (v := V.str y) ?_, rfl⟩
    rw [List.getElem?_map, hy] <;> rfl
  refine ⟨_, rfl, _, _, _, _, rfl, rfl, .of hx, rfl, _, rfl, _, _, _, _, rfl, rfl, .of hx, rfl, _, _, rfl, (int_numS lz).1, (int_numS lz).2, _, rfl, _, _, _, _, rfl, rfl, .of hx, rfl, _, rfl, _, _, _, _, rfl, rfl, .of hx, rfl, ?_⟩
  refine ⟨le_szl 4 (by decide), fun t ht => ⟨_, _, rfl, .of upd_self, rfl, _, _, rfl, _, _, rfl, _, _, rfl, _, _, rfl, rfl, ?_⟩⟩
  refine ⟨_, rfl, rfl, _, rfl, mid_if rfl ?_⟩
  have hT1 := hT.ext (Le.new (o := .tup [.str (rowS l), .int z, .str (midS m), .str (rowS r)]) ht)
  refine ⟨hT1, fun p c' H1 eN nn T1 f0 f1 c1 => ?_⟩
  refine ⟨_, rfl, fun H'' es => ?_⟩
  have e1 : ExtN H H'' := fun b o e n => es.le _ _ (eN _ _ (Le.new ht _ _ e) n)
  have hp0 : H p = none := (Le.new (o := .tup [.str (rowS l), .int z, .str (midS m), .str (rowS r)]) ht).none f0
  refine qq p H'' e1 (T1.ext es.le) hp0 ?_
  exact esc_clsE (js := [1, 2, 3, 4]) (S0 := []) es nb__law_has_day sc__law_days.nofree rfl rfl (n_has T l0 r0 ll lm lr) f1 c1 (fun a ha => nomatch ha)
end
end Od
end
section
set_option Elab.async false
set_option linter.all false
set_option maxRecDepth 100000
set_option maxHeartbeats 2000000
set_option autoImplicit false
/-! the law's own picks -/
namespace Od
open PySem PySem.Spec PyProof.Rows L2 C8
abbrev s__law_pick : Stmt := top 32
abbrev N__law_pick : List Str := ["_law_pen_here", "_law_options"]
abbrev P__law_pick : List Str := ["_law_pen_here", "_law_options"]
theorem sc__law_pick : FnScope N__law_pick P__law_pick (C8.fnScope s__law_pick) := fnScope_by (by decide +kernel)
section
variable {P : Program} {w : World} {K : PySem.W.Frag} {mg : Str → Option Value} {base : Heap}
def sp_pick : Sp := fun vs H Q _ => ∃ (d dl : Addr) (n : Int) (o : V), vs = [.ref d, o] ∧ IsPen H d dl n ∧ n ≤ 1000000000 ∧
  ((∃ z : Str, o = .str z ∧ 0 < z.length ∧ z.length ≤ 1000 ∧ ∀ c H', LeX d H H' → IsPen H' d dl (n + 1) → c ∈ z.cps.toList → Q (.str ⟨#[c]⟩) H') ∨
   (∃ (p : Addr) (xs : List V), o = .ref p ∧ H p = some (.lst xs) ∧ 0 < xs.length ∧ xs.length ≤ 1000000 ∧ ∀ v H', LeX d H H' → IsPen H' d dl (n + 1) → v ∈ xs → Q v H'))
theorem c_pick (T : Txt K mg) (F : DefOf K mg "_law_pick" s__law_pick P__law_pick) (C__law_draw : Cal P w K mg base 1 "_law_draw" sp_draw []) : Cal P w K mg base 2 "_law_pick" sp_pick [] := by
  obtain ⟨f, fd, F, B⟩ := F
  refine cal0 F B .nil sc__law_pick (fun vs H Q E h => by obtain ⟨_, _, _, _, rfl, _⟩ := h; rfl) (fun cdv A outer s H vs Q E hr h => ?_)
  obtain ⟨d, dl, n, o, rfl, pn, n1, h⟩ := h
  have nd := sc__law_pick.nd
  refine ⟨_, (pss_one (ps_ret (pe_ix ix_seq (pv 1) (pe_c C__law_draw hr (by decide) rfl (pa_cons (pv 0) (pa_cons (pe_callB call_len (by rfl) T.b_len (by decide +kernel) (pa_cons (pv 1) pa_nil)) pa_nil))) (fun _ _ => rfl)))), ?_⟩
  rcases h with ⟨z, rfl, z0, z1, q⟩ | ⟨p, xs, rfl, hp, x0, x1, q⟩
  · refine ⟨_, rfl, _, rfl, _, rfl, _, z.length, rfl, ⟨le_szl _ (by omega), rfl⟩, d, dl, _, n, rfl, pn, n1, by omega, lg9 _ (by omega) (by omega), fun r H1 l1 p1 r0 r1 => ?_⟩
    have ez : z.cps.toList.length = z.length := by simp [Str.length]
    obtain ⟨c, hc, e⟩ := at_mem (xs := z.cps.toList) r0 (by rw [ez]; exact r1)
    exact .inr (.inr ⟨z, r, c, rfl, rfl, le_szl _ (by omega), e, q c H1 l1 p1 hc⟩)
  · refine ⟨_, rfl, _, rfl, _, rfl, _, xs.length, rfl, .inl ⟨xs, .of hp, rfl⟩, d, dl, _, n, rfl, pn, n1, by omega, lg9 _ (by omega) (by omega), fun r H1 l1 p1 r0 r1 => ?_⟩
    obtain ⟨v, hv, e⟩ := at_mem (xs := xs) r0 r1
    exact .inl ⟨p, xs, r, v, rfl, rfl, .of (l1 _ _ (pn.ne hp) hp), e, q v H1 l1 p1 hv⟩
end
end Od
end
section
set_option Elab.async false
set_option linter.all false
set_option maxRecDepth 100000
set_option maxHeartbeats 2000000
set_option autoImplicit false
/-! the law's trees of charts -/
namespace Od
open PySem PySem.Spec PyProof.Rows L2 C8 Day NdefX LamX
abbrev s__law_chart : Stmt := top 36
abbrev N__law_chart : List Str := ["_law_pen_here", "_law_deep", "_law_way"]
abbrev P__law_chart : List Str := ["_law_pen_here", "_law_deep"]
theorem sc__law_chart : FnScope N__law_chart P__law_chart (C8.fnScope s__law_chart) := fnScope_by (by decide +kernel)
inductive CT where
  | of (a b : Frm)
  | kst (t : Bool)
  | inv (c : CT)
  | bin (o : Nat) (c d : CT)
def opB : Nat → Bool → Bool → Bool
  | 0 => fun a b => a || b
  | 1 => fun a b => a && b
  | 2 => fun a b => a && !b
  | _ => fun a b => a != b
def opS : Nat → Str
  | 0 => "|"
  | 1 => "&"
  | 2 => "-"
  | _ => "^"
def kstS (t : Bool) : Str := if t then "every" else "none"
def CT.g : CT → Int → DF
  | .of a b => fun d n => a.mem d && b.mem n
  | .kst t => fun _ _ => t
  | .inv c => fun d n => !c.g d n
  | .bin o c e => fun d n => opB o (c.g d n) (e.g d n)
def CT.m : CT → Nat
  | .of _ _ => 2
  | .kst _ => 1
  | .inv c => c.m
  | .bin _ c e => c.m * e.m
def CT.dep : CT → Nat
  | .of _ _ => 0
  | .kst _ => 0
  | .inv c => c.dep + 1
  | .bin _ c e => max c.dep e.dep + 1
/-- a drawn form -/
structure W4 (F : Frm) : Prop where
  l0 : F.l ≠ []
  r0 : F.r ≠ []
  ll : F.l.length ≤ 4
  lr : F.r.length ≤ 4
  lm : F.m.length ≤ 8
  k0 : -20 ≤ F.low
  k1 : F.low ≤ 20
theorem W4.ok {F : Frm} (w : W4 F) : Ok F.mem 12 28 := by
  obtain ⟨l, k, m, r⟩ := F
  obtain ⟨l0, r0, ll, lr, lm, k0, k1⟩ := w
  have ll : l.length ≤ 4 := ll
  have lr : r.length ≤ 4 := lr
  have lm : m.length ≤ 8 := lm
  have k0 : -20 ≤ k := k0
  have k1 : k ≤ 20 := k1
  exact Frm.okF (l := l) (k := k) (m := m) (r := r) (c := 12) (b := 28) l0 r0 (div12 (List.length_pos_iff.mpr l0) ll) (div12 (List.length_pos_iff.mpr r0) lr) (by decide) (by decide) (by decide) (by decide) (by omega) (by omega)
def CT.ok : CT → Prop
  | .of a b => W4 a ∧ W4 b
  | .kst _ => True
  | .inv c => c.ok
  | .bin o c e => o < 4 ∧ c.ok ∧ e.ok
theorem CT.kinds : ∀ c : CT, ∃ κ, Dep κ c.m c.g
  | .of a b => ⟨_, Dep.of a.mem b.mem⟩
  | .kst t => ⟨_, Dep.kst fun _ => t⟩
  | .inv c => by
    obtain ⟨κ, k⟩ := c.kinds
    exact ⟨κ, k.not⟩
  | .bin o c e => by
    obtain ⟨κ, k⟩ := c.kinds
    obtain ⟨κ', k'⟩ := e.kinds
    obtain ⟨k1, k2⟩ := k.two k'
    exact ⟨_, k1.bin k2 (opB o)⟩
def wordsV (F : Frm) : HO := .lst ((words4 F.l F.low F.m F.r).map V.str)
/-- the tree's tuple -/
def TreeAt (H : Hp) : V → CT → Prop
  | v, .of a b => ∃ t x y : Addr, v = .ref t ∧ H t = some (.tup [.str "of", .ref x, .ref y]) ∧ H x = some (wordsV a) ∧ H y = some (wordsV b)
  | v, .kst t => ∃ p : Addr, v = .ref p ∧ H p = some (.tup [.str (kstS t)])
  | v, .inv c => ∃ (p : Addr) (u : V), v = .ref p ∧ H p = some (.tup [.str "~", u]) ∧ TreeAt H u c
  | v, .bin o c e => ∃ (p : Addr) (u u' : V), v = .ref p ∧ H p = some (.tup [.str (opS o), u, u']) ∧ TreeAt H u c ∧ TreeAt H u' e
theorem TreeAt.gen {H H' : Hp} (ht : ∀ p xs, H p = some (.tup xs) → H' p = some (.tup xs)) (hl : ∀ p xs, H p = some (.lst xs) → H' p = some (.lst xs)) : ∀ {c : CT} {v : V}, TreeAt H v c → TreeAt H' v c
  | .of a b, v, ⟨t, x, y, e, h1, h2, h3⟩ => ⟨t, x, y, e, ht _ _ h1, hl _ _ h2, hl _ _ h3⟩
  | .kst t, v, ⟨p, e, h1⟩ => ⟨p, e, ht _ _ h1⟩
  | .inv c, v, ⟨p, u, e, h1, h2⟩ => ⟨p, u, e, ht _ _ h1, TreeAt.gen ht hl h2⟩
  | .bin o c e, v, ⟨p, u, u', q, h1, h2, h3⟩ => ⟨p, u, u', q, ht _ _ h1, TreeAt.gen ht hl h2, TreeAt.gen ht hl h3⟩
theorem TreeAt.le {H H' : Hp} {c : CT} {v : V} (h : TreeAt H v c) (l : Le H H') : TreeAt H' v c := h.gen (fun p xs e => l p _ e) fun p xs e => l p _ e
theorem TreeAt.ex {H H' : Hp} {d dl : Addr} {n : Int} {c : CT} {v : V} (h : TreeAt H v c) (l : EX d H H') (pn : IsPen H d dl n) : TreeAt H' v c := by
  obtain ⟨kvs, e2⟩ := pn.dict
  exact h.gen (fun p xs e => l p _ (fun z => by rw [z, e2] at e; cases e) (fun ps z => by cases z) e) fun p xs e => l p _ (fun z => by rw [z, e2] at e; cases e) (fun ps z => by cases z) e
theorem TreeAt.n {H H' : Hp} {c : CT} {v : V} (h : TreeAt H v c) (l : ExtN H H') : TreeAt H' v c := h.gen (fun p xs e => l p _ e fun ps z => by cases z) fun p xs e => l p _ e fun ps z => by cases z
theorem TreeAt.ref {H : Hp} {c : CT} {v : V} (h : TreeAt H v c) : ∃ p, v = .ref p := by
  cases c with
  | of a b => obtain ⟨t, _, _, e, _⟩ := h; exact ⟨t, e⟩
  | kst t => obtain ⟨p, e, _⟩ := h; exact ⟨p, e⟩
  | inv c => obtain ⟨p, _, e, _⟩ := h; exact ⟨p, e⟩
  | bin o c e => obtain ⟨p, _, _, e, _⟩ := h; exact ⟨p, e⟩
section
variable {P : Program} {w : World} {K : PySem.W.Frag} {mg : Str → Option Value} {base : Heap}
def sp_chart (m : Nat) : Sp := fun vs H Q _ => ∃ (d dl : Addr) (n : Int), vs = [.ref d, .int (m : Int)] ∧ IsPen H d dl n ∧ n + 200 * 3 ^ m ≤ 500000000 ∧
  ∀ v c H', LeX d H H' → IsPen H' d dl (n + 200 * 3 ^ m) → TreeAt H' v c → c.ok → c.dep ≤ m → Q v H'
def sp_chartU (M : Nat) : Sp := fun vs H Q E => ∃ m, m ≤ M ∧ sp_chart m vs H Q E
def sp_chartP : Nat → Sp
  | 0 => fun _ _ _ _ => False
  | M + 1 => sp_chartU M
theorem c_chart0 (F : DefOf K mg "_law_chart" s__law_chart P__law_chart) (k : Nat) : Cal P w K mg base (k + 1) "_law_chart" (sp_chartP 0) [] := by
  obtain ⟨f, fd, F, B⟩ := F
  exact cal0 F B .nil sc__law_chart (fun vs H Q E h => h.elim) (fun cdv A outer s H vs Q E hr h => h.elim)
theorem c_chartS (M : Nat) (hM3 : M ≤ 3) (T : Txt K mg) (F : DefOf K mg "_law_chart" s__law_chart P__law_chart) (C__law_chart : Cal P w K mg base (3 + M) "_law_chart" (sp_chartP M) []) (C__law_draw : Cal P w K mg base 1 "_law_draw" sp_draw []) (C__law_form : Cal P w K mg base 3 "_law_form" sp_form []) (C__law_pick : Cal P w K mg base 2 "_law_pick" sp_pick []) :
    Cal P w K mg base (4 + M) "_law_chart" (sp_chartU M) [] := by
  obtain ⟨f, fd, F, B⟩ := F
  rw [show 4 + M = 3 + M + 1 by omega]
  refine cal0 F B .nil sc__law_chart (fun vs H Q E h => by obtain ⟨_, _, _, _, _, rfl, _⟩ := h; rfl) (fun cdv A outer s H vs Q E hr h => ?_)
  obtain ⟨m, hmM, d, dl, n, rfl, pn, n1, qq⟩ := h
  have nd := sc__law_chart.nd
  refine ⟨_, (pss_cons (ps_set (i := 2) nd rfl (Or.inl rfl) (pe_c C__law_draw hr (by omega) rfl (pa_cons (pv 0) (pa_cons pe_int pa_nil))))
      (pss_cons (ps_if (PW.pt (pw_or (pt_cmpR op_eq (pv 1) pe_int (nomark _)) (pw_or1 (pt_cmpR op_lt (pv 2) pe_int (nomark _))))) (pss_one (ps_ret (pe_ifExp (pt_cmpR op_gt (pv 2) pe_int (nomark _)) (pe_tup (pa_cons pe_str (pa_cons (pe_c C__law_form hr (by omega) rfl (pa_cons (pv 0) (pa_cons pe_int pa_nil))) (pa_cons (pe_c C__law_form hr (by omega) rfl (pa_cons (pv 0) (pa_cons pe_int pa_nil))) pa_nil)))) (pe_tup (pa_cons (pe_c C__law_pick hr (by omega) rfl (pa_cons (pv 0) (pa_cons (pe_lst (pa_cons pe_str (pa_cons pe_str pa_nil))) pa_nil))) pa_nil))))) pss_nil)
      (pss_cons (ps_if (pt_cmpR op_eq (pv 2) pe_int (nomark _)) (pss_one (ps_ret (pe_tup (pa_cons pe_str (pa_cons (pe_c C__law_chart hr (by omega) rfl (pa_cons (pv 0) (pa_cons (pe_op op_sub (pv 1) pe_int) pa_nil))) pa_nil))))) pss_nil)
      (pss_one (ps_ret (pe_tup (pa_cons (pe_c C__law_pick hr (by omega) rfl (pa_cons (pv 0) (pa_cons (pe_lst (pa_cons pe_str (pa_cons pe_str (pa_cons pe_str (pa_cons pe_str pa_nil))))) pa_nil))) (pa_cons (pe_c C__law_chart hr (by omega) rfl (pa_cons (pv 0) (pa_cons (pe_op op_sub (pv 1) pe_int) pa_nil))) (pa_cons (pe_c C__law_chart hr (by omega) rfl (pa_cons (pv 0) (pa_cons (pe_op op_sub (pv 1) pe_int) pa_nil))) pa_nil))))))))), ?_⟩
  have p3 : (1 : Int) ≤ 3 ^ m := by
    have : m = 0 ∨ m = 1 ∨ m = 2 ∨ m = 3 := by omega
    rcases this with rfl | rfl | rfl | rfl <;> decide
  refine ⟨_, rfl, d, dl, 10, n, rfl, pn, by omega, by decide, by decide, fun way H1 l1 p1 w0 w1 => ?_⟩
  refine ⟨_, rfl, rfl, _, rfl, ite2 (fun c => ?leaf) (fun c0 => ?next)⟩
  case' next => refine ⟨_, rfl, _, _, rfl, rfl, _, rfl, ite2 (fun c => ?leaf2) (fun c1 => ?rest)⟩
  case leaf | leaf2 =>
    refine ⟨_, rfl, _, _, rfl, rfl, _, rfl, ite2 (fun cw => ?_) (fun cw => ?_)⟩
    · refine ⟨_, rfl, d, dl, _, 8, rfl, p1, by omega, by decide, by decide, fun l k m' r x H2 l2 p2 nx l0 r0 ll lr lm k0 k1 ex => ?_⟩
      refine ⟨_, rfl, d, dl, _, 8, rfl, p2, by omega, by decide, by decide, fun l' k' m'' r' y H3 l3 p3 ny l0' r0' ll' lr' lm' k0' k1' ey => ?_⟩
      refine ⟨le_szl 3 (by decide), fun t nt => ?_⟩
      have l4 := Le.new (o := .tup [.str "of", .ref x, .ref y]) nt
      refine qq _ (.of ⟨l, k, m', r⟩ ⟨l', k', m'', r'⟩) _ ((l1.tr l2).tr (l3.tr l4.x)) ((p3.le l4).mono (by omega)) ⟨t, x, y, rfl, upd_self, l4 _ _ (l3 _ _ (p2.ne ex) ex), l4 _ _ ey⟩ ⟨⟨l0, r0, ll, lr, by show m'.length ≤ 8; omega, k0, k1⟩, ⟨l0', r0', ll', lr', by show m''.length ≤ 8; omega, k0', k1'⟩⟩ (Nat.zero_le _)
    · refine ⟨_, rfl, le_szl 2 (by decide), fun z nz => ?_⟩
      have l2 := Le.new (o := .lst [.str "none", .str "every"]) nz
      have p2 := p1.le l2
      refine ⟨d, dl, _, .ref z, rfl, p2, by omega, .inr ⟨z, _, rfl, upd_self, Nat.succ_pos _, (show 2 ≤ 1000000 by decide), fun v H3 l3 p3 hv => ⟨le_szl 1 (by decide), fun t nt => ?_⟩⟩⟩
      have hq : ∃ b, v = .str (kstS b) := by
        simp only [List.mem_cons, List.not_mem_nil, or_false] at hv
        rcases hv with rfl | rfl
        · exact ⟨false, rfl⟩
        · exact ⟨true, rfl⟩
      obtain ⟨b, rfl⟩ := hq
      have l4 := Le.new (o := .tup [.str (kstS b)]) nt
      exact qq _ (.kst b) _ ((l1.tr l2.x).tr (l3.tr l4.x)) ((p3.le l4).mono (by omega)) ⟨t, rfl, upd_self⟩ True.intro (Nat.zero_le _)
  obtain ⟨m', rfl⟩ : ∃ m', m = m' + 1 := ⟨m - 1, by
    have : ¬ V.int (m : Int) = V.int 0 := fun h => c0 (decide_eq_true h)
    have : m ≠ 0 := fun h => this (by rw [h]; rfl)
    omega⟩
  obtain ⟨M', rfl⟩ : ∃ M', M = M' + 1 := ⟨M - 1, by omega⟩
  have em : [V.ref d, V.int (((m' + 1 : Nat) : Int) - 1)] = [V.ref d, V.int (m' : Int)] := by rw [show ((m' + 1 : Nat) : Int) - 1 = (m' : Int) by omega]
  have e33 : (3 : Int) ^ (m' + 1) = 3 ^ m' * 3 := Int.pow_succ 3 m'
  have p3' : (1 : Int) ≤ 3 ^ m' := by
    have : m' = 0 ∨ m' = 1 ∨ m' = 2 := by omega
    rcases this with rfl | rfl | rfl <;> decide
  refine ⟨_, rfl, rfl, _, rfl, ite2 (fun c3 => ?_) (fun c3 => ?_)⟩
  · refine ⟨_, rfl, _, rfl, _, _, rfl, rfl, m', by omega, d, dl, _, em, p1, by omega, fun v c H2 l2 p2 tr ok dp => ⟨le_szl 2 (by decide), fun t nt => ?_⟩⟩
    have l4 := Le.new (o := .tup [.str "~", v]) nt
    exact qq _ (.inv c) _ (l1.tr (l2.tr l4.x)) ((p2.le l4).mono (by omega)) ⟨t, v, rfl, upd_self, tr.le l4⟩ ok (Nat.succ_le_succ dp)
  · refine ⟨_, rfl, le_szl 4 (by decide), fun z nz => ?_⟩
    have l2 := Le.new (o := .lst [.str "|", .str "&", .str "-", .str "^"]) nz
    have p2 := p1.le l2
    refine ⟨d, dl, _, .ref z, rfl, p2, by omega, .inr ⟨z, _, rfl, upd_self, Nat.succ_pos _, (show 4 ≤ 1000000 by decide), fun v H3 l3 p3 hv => ?_⟩⟩
    have hq : ∃ o, v = .str (opS o) ∧ o < 4 := by
      simp only [List.mem_cons, List.not_mem_nil, or_false] at hv
      rcases hv with rfl | rfl | rfl | rfl
      · exact ⟨0, rfl, by decide⟩
      · exact ⟨1, rfl, by decide⟩
      · exact ⟨2, rfl, by decide⟩
      · exact ⟨3, rfl, by decide⟩
    obtain ⟨o, rfl, ho⟩ := hq
    refine ⟨_, rfl, _, rfl, _, _, rfl, rfl, m', by omega, d, dl, _, em, p3, by omega, fun v c H4 l4 p4 tr ok dp => ?_⟩
    refine ⟨_, rfl, _, rfl, _, _, rfl, rfl, m', by omega, d, dl, _, em, p4, by omega, fun v' c' H5 l5 p5 tr' ok' dp' => ?_⟩
    refine ⟨le_szl 3 (by decide), fun t nt => ?_⟩
    have l6 := Le.new (o := .tup [.str (opS o), v, v']) nt
    exact qq _ (.bin o c c') _ ((l1.tr l2.x).tr ((l3.tr l4).tr (l5.tr l6.x))) ((p5.le l6).mono (by omega)) ⟨t, v, v', rfl, upd_self, (tr.ex l5.ex p4).le l6, tr'.le l6⟩ ⟨ho, ok, ok'⟩ (by show max c.dep c'.dep + 1 ≤ m' + 1; omega)
end
end Od
end
section
set_option Elab.async false
set_option linter.all false
set_option maxRecDepth 100000
set_option maxHeartbeats 2000000
set_option autoImplicit false
/-! charts: the lack, sections -/
namespace Od
open PySem PySem.Spec PyProof.Rows L2 C8 Day
section
variable {P : Program} {w : World} {K : PySem.W.Frag} {mg : Str → Option Value} {base : Heap}
def sp_cinv (C X : Addr) : Sp := fun vs H Q _ => ∃ (p : Addr) (g : Int → DF) (κ : Int → Nat) (m : Nat), vs = [.ref p] ∧ IsChart C X H p g ∧ Dep κ m g ∧ m ≤ 1000 ∧
  ∀ r H', Le H H' → IsChart C X H' r (fun d n => !g d n) → H r = none → Q (.ref r) H'
theorem q_cinv {C X : Addr} (T : Txt K mg) (D : DSC K mg C) (DC : DCC K mg X) (M : MetOf K X "__invert__" "Chart.__invert__" s_Chart___invert__ P_Chart___invert__) (Q_DaySet___invert__ : Met P w K mg base 7 C "__invert__" (sp_inv C) []) (M_Chart : Mak P w K mg base 9 "Chart" X (sp_cinit C X) []) : Met P w K mg base 11 X "__invert__" (sp_cinv C X) [] := by
  obtain ⟨g_, fd, M, F, B⟩ := M
  refine met0 DC.cl M F B sc_Chart___invert__ (fun vs H Q E h => by obtain ⟨_, _, _, _, rfl, _⟩ := h; rfl) (fun cdv A outer s H vs Q E hr h => ?_)
  obtain ⟨p, g, κ, m, rfl, hp, k1, hm, qq⟩ := h
  have nd := sc_Chart___invert__.nd
  refine ⟨_, (pss_one (ps_ret (pe_mk M_Chart hr (by decide) rfl (pa_cons (pe_lc (own := [("days", 1), ("ages", 2)]) (g := (gTup K 2 (gCons (gName 1) (gCons (gName 2) gNil)))) (by rfl) nd (pi_list (pe_fld (pv 0) rfl)) (blkOk_by (own := [("days", 1), ("ages", 2)]) (N := N_Chart___invert__) (sc := C8.fnScope s_Chart___invert__) (by decide +kernel)) (fun _ _ _ _ _ => (pg_tupK (K := K) rfl rfl (pgs_cons (pg_name (i := 1) nd rfl (Or.inl rfl) (Or.inr rfl)) (pgs_cons (pg_name (i := 2) nd rfl (Or.inl rfl) (Or.inr rfl)) pgs_nil)))) (fun _ _ _ _ _ => pts_nil) (fun _ _ _ _ _ => (pe_tup (pa_cons (pv 1) (pa_cons (pe_un (un_ownInvM Q_DaySet___invert__ hr (by decide)) (pv 2)) pa_nil))))) pa_nil)))), ?_⟩
  obtain ⟨dx, lp, xs, R, hp1, hlp, hR, lR, _⟩ := hp
  have r1 := lR.few k1
  have hxl := hR.len
  refine ⟨_, rfl, _, _, _, _, _, rfl, hp1, DC.cl, DC.n_pairs, by rfl, _, rfl, ⟨_, .of hlp⟩, fun D1 nD1 => ?_⟩
  refine lc_eff (xs := xs) walk_list gives_at nD1 (fun _ le => .of (le _ _ hlp)) R hxl.symm (le_szl _ (by omega)) (fun r => ((r.1, fun a => !r.2 a) : Row2)) (fun v s H => RowAt C H v s) (fun v s H H' l hD h => h.lst l hD) ?_ ?_
  · intro i x r Hx hx hr le
    obtain ⟨r', hr', t, a, b, rfl, ht, da, db, oa, ob⟩ := hR.get hx
    obtain rfl : r' = r := by rw [hr] at hr'; exact (Option.some.inj hr').symm
    refine ⟨_, ?_, fun K2 hK => ⟨t, _, rfl, .of (le _ _ ht), rfl, _, _, rfl, _, _, rfl, rfl, hK⟩, fun N hN => ?_⟩
    · rfl
    · have db' := db.le le
      obtain ⟨_, _, _, _, _, hb1⟩ := id db'
      refine ⟨_, rfl, _, rfl, _, _, _, rfl, hb1, b, r'.2, 12, 200, rfl, db', ob, fun nw H3 l3 dn nn => ?_⟩
      refine ⟨le_szl 2 (by decide), fun t3 nt3 => ?_⟩
      have l4 := Le.new (o := .tup [.ref a, .ref nw]) nt3
      exact hN _ _ (l3.trans l4) ⟨t3, a, nw, rfl, upd_self, ((da.le le).le l3).le l4, dn.le l4, oa, ob.not⟩
  · intro H2 ws le e hW
    exact make_chart e (RowsAt.of2 hW) lR.t.inv (by rw [List.length_map]; omega) fun c H' l4 hc nc => qq c H' (le.trans l4) hc (le.none nc)
end
abbrev s_Chart_ages : Stmt := inClass (top 28) 18
abbrev N_Chart_ages : List Str := ["self", "day", "days", "found"]
abbrev P_Chart_ages : List Str := ["self", "day"]
theorem sc_Chart_ages : FnScope N_Chart_ages P_Chart_ages (C8.fnScope s_Chart_ages) := fnScope_by (by decide +kernel)
section
variable {P : Program} {w : World} {K : PySem.W.Frag} {mg : Str → Option Value} {base : Heap}
def sp_ages (C X : Addr) : Sp := fun vs H Q _ => ∃ (p : Addr) (d : Int) (g : Int → DF), vs = [.ref p, .int d] ∧ IsChart C X H p g ∧ ∀ r, IsDay C H r (g d) → OkC (g d) → Q (.ref r) H
theorem q_ages {C X : Addr} (T : Txt K mg) (D : DSC K mg C) (DC : DCC K mg X) (M : MetOf K X "ages" "Chart.ages" s_Chart_ages P_Chart_ages) (Q_DaySet___contains__ : Met P w K mg base 2 C "__contains__" (sp_has C) []) (K_DaySet_none : CMt P w K mg base 6 C "none" (sp_kst C false)) : Met P w K mg base 7 X "ages" (sp_ages C X) [] := by
  obtain ⟨g_, fd, M, F, B⟩ := M
  refine met0 DC.cl M F B sc_Chart_ages (fun vs H Q E h => by obtain ⟨_, _, _, rfl, _⟩ := h; rfl) (fun cdv A outer s H vs Q E hr h => ?_)
  obtain ⟨p, d, g, rfl, hp, qq⟩ := h
  have nd := sc_Chart_ages.nd
  refine ⟨_, (C8.pss_cut (ps_for PassesOwn.never rfl (pi_list (pe_fld (pv 0) rfl)) (pg_tup rfl (pgs_cons (pg_name (i := 2) nd rfl (Or.inl rfl)) (pgs_cons (pg_name (i := 3) nd rfl (Or.inl rfl)) pgs_nil))) (pss_one (ps_if (pt_cmpR (op_ownInM Q_DaySet___contains__ hr (by decide)) (pv 1) (pv 2) (by rfl)) (pss_one (ps_ret (pv 3))) pss_nil)))
      (pss_one (ps_ret (pe_cm0 K_DaySet_none hr (by decide) (pe_gc rfl D.g))))), ?_⟩
  obtain ⟨dx, lp, xs, R, hp1, hlp, hR, lR, _⟩ := hp
  refine ⟨fun σ' H' => ∀ r ∈ R, r.1 d = false, ?_, ?_⟩
  · refine ⟨_, rfl, _, _, _, _, _, rfl, hp1, DC.cl, DC.n_pairs, by rfl, _, rfl, ⟨_, .of hlp⟩, ?_⟩
    refine for_list (xs := xs) (fun i σ' H' => H' = H ∧ (∃ x2 x3, σ' = [some (.ref p), some (.int d), x2, x3]) ∧ ∀ r ∈ R.take i, r.1 d = false) ?_ ?_ ?_ ?_
    · exact ⟨rfl, ⟨_, _, rfl⟩, fun r hr => by simp at hr⟩
    · rintro i σ' H' _ ⟨rfl, _⟩
      exact .of hlp
    · rintro i x σ' H' hx ⟨rfl, ⟨x2, x3, rfl⟩, hno⟩
      obtain ⟨r, hr1, t, a, b, rfl, ht, da, db, oa, ob⟩ := hR.get hx
      obtain ⟨_, _, _, _, _, ha1⟩ := id da
      refine ⟨t, _, rfl, .of ht, rfl, _, _, rfl, _, _, rfl, rfl, ?_⟩
      refine ⟨_, rfl, _, rfl, _, _, _, rfl, ha1, a, d, r.1, rfl, da, _, rfl, _, rfl, ?_⟩
      refine ite2 (fun c => ?_) (fun c => ?_)
      · have c : r.1 d = true := by simpa using c
        have e := lR.t.is r (List.mem_of_getElem? hr1) d c
        rw [← e] at qq
        exact ⟨_, rfl, qq b db ob⟩
      · have c : r.1 d = false := by simpa using c
        refine ⟨rfl, ⟨_, _, rfl⟩, fun s hs => ?_⟩
        rw [take_snoc hr1] at hs
        rcases List.mem_append.mp hs with hs | hs
        · exact hno s hs
        · rw [List.mem_singleton.mp hs]
          exact c
    · rintro σ' H' ⟨rfl, _, hno⟩
      rw [hR.len, List.take_length] at hno
      exact hno
  rintro σ' H' hno
  obtain ⟨r, hr, e⟩ := lR.t.cov d
  rw [hno r hr] at e
  cases e
end
abbrev s_Chart_days : Stmt := inClass (top 28) 19
abbrev N_Chart_days : List Str := ["self", "age", "found", "days", "ages"]
abbrev P_Chart_days : List Str := ["self", "age"]
theorem sc_Chart_days : FnScope N_Chart_days P_Chart_days (C8.fnScope s_Chart_days) := fnScope_by (by decide +kernel)
section
variable {P : Program} {w : World} {K : PySem.W.Frag} {mg : Str → Option Value} {base : Heap}
def anyD (R : List Row2) (q : Row2 → Int → Bool) : DF := fun n => R.any fun r => q r n
theorem anyD_snoc {R : List Row2} {q : Row2 → Int → Bool} {r : Row2} : anyD (R ++ [r]) q = fun n => (anyD R q n || q r n) := by
  funext n
  unfold anyD
  rw [List.any_append]
  simp
def sp_cdays (C X : Addr) : Sp := fun vs H Q _ => ∃ (p : Addr) (a : Int) (g : Int → DF), vs = [.ref p, .int a] ∧ IsChart C X H p g ∧ ∀ r H', Le H H' → IsDay C H' r (fun d => g d a) → Q (.ref r) H'
theorem q_cdays {C X : Addr} (T : Txt K mg) (D : DSC K mg C) (DC : DCC K mg X) (M : MetOf K X "days" "Chart.days" s_Chart_days P_Chart_days) (Q_DaySet___contains__ : Met P w K mg base 2 C "__contains__" (sp_has C) []) (Q_DaySet___or__ : Met P w K mg base 7 C "__or__" (sp_bin C fun a b => a || b) []) (K_DaySet_none : CMt P w K mg base 6 C "none" (sp_kst C false)) : Met P w K mg base 8 X "days" (sp_cdays C X) [] := by
  obtain ⟨g_, fd, M, F, B⟩ := M
  refine met0 DC.cl M F B sc_Chart_days (fun vs H Q E h => by obtain ⟨_, _, _, rfl, _⟩ := h; rfl) (fun cdv A outer s H vs Q E hr h => ?_)
  obtain ⟨p, n, g, rfl, hp, qq⟩ := h
  have nd := sc_Chart_days.nd
  refine ⟨_, (pss_cons (ps_set (i := 2) nd rfl (Or.inl rfl) (pe_cm0 K_DaySet_none hr (by decide) (pe_gc rfl D.g)))
      (C8.pss_cut (ps_for PassesOwn.never rfl (pi_list (pe_fld (pv 0) rfl)) (pg_tup rfl (pgs_cons (pg_name (i := 3) nd rfl (Or.inl rfl)) (pgs_cons (pg_name (i := 4) nd rfl (Or.inl rfl)) pgs_nil))) (pss_one (ps_if (pt_cmpR (op_ownInM Q_DaySet___contains__ hr (by decide)) (pv 1) (pv 4) (by rfl)) (pss_one (ps_set (i := 2) nd rfl (Or.inl rfl) (pe_op (op_ownM D.sf Q_DaySet___or__ hr (by decide)) (pv 2) (pv 3)))) pss_nil)))
      (pss_one (ps_ret (pv 2))))), ?_⟩
  obtain ⟨dx, lp, xs, R, hp1, hlp, hR, lR, _⟩ := hp
  refine ⟨rfl, rfl, fun f0 H1 l1 d0 n0 => ?_⟩
  refine ⟨fun σ' H' => Le H H' ∧ ∃ fo x3 x4, σ' = [some (.ref p), some (.int n), some (.ref fo), x3, x4] ∧ IsDay C H' fo (anyD R fun r d => r.2 n && r.1 d), ?_, ?_⟩
  · refine ⟨_, rfl, _, _, _, _, _, rfl, l1 _ _ hp1, DC.cl, DC.n_pairs, by rfl, _, rfl, ⟨_, .of (l1 _ _ hlp)⟩, ?_⟩
    refine for_list (xs := xs) (fun i σ' H' => Le H H' ∧ ∃ fo x3 x4, σ' = [some (.ref p), some (.int n), some (.ref fo), x3, x4] ∧ IsDay C H' fo (anyD (R.take i) fun r d => r.2 n && r.1 d) ∧ OkC (anyD (R.take i) fun r d => r.2 n && r.1 d)) ?_ ?_ ?_ ?_
    · exact ⟨l1, f0, _, _, rfl, d0, okK false⟩
    · rintro i σ' H' _ ⟨le, _⟩
      exact .of (le _ _ hlp)
    · rintro i x σ' H' hx ⟨le, fo, x3, x4, rfl, hf, of⟩
      obtain ⟨r, hr1, t, a, b, rfl, ht, da, db, oa, ob⟩ := hR.get hx
      have db' := db.le le
      have da' := da.le le
      obtain ⟨_, _, _, _, _, hb1⟩ := id db'
      obtain ⟨_, _, _, _, _, ha1⟩ := id da'
      obtain ⟨_, _, _, _, _, hf1⟩ := id hf
      rw [take_snoc hr1]
      refine ⟨t, _, rfl, .of (le _ _ ht), rfl, _, _, rfl, _, _, rfl, rfl, ?_⟩
      refine ⟨_, rfl, _, rfl, _, _, _, rfl, hb1, b, n, r.2, rfl, db', _, rfl, _, rfl, ?_⟩
      refine ite2 (fun c => ?_) (fun c => ?_)
      · have c : r.2 n = true := by simpa using c
        refine ⟨_, rfl, _, rfl, _, _, _, _, _, _, rfl, rfl, hf1, ha1, fo, a, _, r.1, 12, 200, rfl, hf, da', of, oa, fun nw H3 l3 dn nn => ?_⟩
        have e : (fun d => (anyD (R.take i) (fun r d => r.2 n && r.1 d) d || r.1 d)) = anyD (R.take i ++ [r]) fun r d => r.2 n && r.1 d := by
          rw [anyD_snoc, c]
          rfl
        exact ⟨le.trans l3, nw, _, _, rfl, e ▸ dn, e ▸ (of.bin oa fun x y => x || y)⟩
      · have c : r.2 n = false := by simpa using c
        have e : anyD (R.take i) (fun r d => r.2 n && r.1 d) = anyD (R.take i ++ [r]) fun r d => r.2 n && r.1 d := by
          rw [anyD_snoc, c]
          funext d
          simp
        exact ⟨le, fo, _, _, rfl, e ▸ hf, e ▸ of⟩
    · rintro σ' H' ⟨le, fo, x3, x4, rfl, hf, of⟩
      rw [hR.len, List.take_length] at hf
      exact ⟨le, fo, _, _, rfl, hf⟩
  rintro σ' H' ⟨le, fo, x3, x4, rfl, hf⟩
  have e : (anyD R fun r d => r.2 n && r.1 d) = fun d => g d n := by
    funext d
    obtain ⟨r, hr, hd⟩ := lR.t.cov d
    cases hg : g d n with
    | true =>
      refine List.any_eq_true.mpr ⟨r, hr, ?_⟩
      show (r.2 n && r.1 d) = true
      rw [lR.t.is r hr d hd, hg, hd]
      rfl
    | false =>
      refine List.any_eq_false.mpr fun s hs => ?_
      show ¬ (s.2 n && s.1 d) = true
      rw [Bool.and_eq_true]
      rintro ⟨h1, h2⟩
      rw [lR.t.is s hs d h2, hg] at h1
      cases h1
  exact ⟨_, rfl, qq fo H' le (e ▸ hf)⟩
end
abbrev s_Chart_at : Stmt := inClass (top 28) 22
abbrev N_Chart_at : List Str := ["self", "time", "found", "days", "ages"]
abbrev P_Chart_at : List Str := ["self", "time"]
theorem sc_Chart_at : FnScope N_Chart_at P_Chart_at (C8.fnScope s_Chart_at) := fnScope_by (by decide +kernel)
section
variable {P : Program} {w : World} {K : PySem.W.Frag} {mg : Str → Option Value} {base : Heap}
theorem anyT_snoc {R : List Row2} {r : Row2} {time : Int} : (fun n => (R ++ [r]).any fun x => x.1 n && x.2 (-(n - time))) = fun n => ((R.any fun x => x.1 n && x.2 (-(n - time))) || (r.1 n && r.2 (-(n - time)))) := by
  funext n
  rw [List.any_append]
  simp
def sp_cat (C X : Addr) : Sp := fun vs H Q _ => ∃ (p : Addr) (time : Int) (g : Int → DF), vs = [.ref p, .int time] ∧ IsChart C X H p g ∧ -100 ≤ time ∧ time ≤ 100 ∧ ∀ r H', Le H H' → IsDay C H' r (fun n => g n (time - n)) → Q (.ref r) H'
theorem q_cat {C X : Addr} (T : Txt K mg) (D : DSC K mg C) (DC : DCC K mg X) (M : MetOf K X "at" "Chart.at" s_Chart_at P_Chart_at) (Q_DaySet___or__ : Met P w K mg base 7 C "__or__" (sp_bin C fun a b => a || b) []) (Q_DaySet___and__ : Met P w K mg base 7 C "__and__" (sp_bin C fun a b => a && b) []) (Q_DaySet___neg__ : Met P w K mg base 6 C "__neg__" (sp_neg C) []) (Q_DaySet___rshift__ : Met P w K mg base 6 C "__rshift__" (sp_mv C fun k => k) []) (K_DaySet_none : CMt P w K mg base 6 C "none" (sp_kst C false)) : Met P w K mg base 8 X "at" (sp_cat C X) [] := by
  obtain ⟨g_, fd, M, F, B⟩ := M
  refine met0 DC.cl M F B sc_Chart_at (fun vs H Q E h => by obtain ⟨_, _, _, rfl, _⟩ := h; rfl) (fun cdv A outer s H vs Q E hr h => ?_)
  obtain ⟨p, time, g, rfl, hp, t0, t1, qq⟩ := h
  have nd := sc_Chart_at.nd
  refine ⟨_, (pss_cons (ps_set (i := 2) nd rfl (Or.inl rfl) (pe_cm0 K_DaySet_none hr (by decide) (pe_gc rfl D.g)))
      (C8.pss_cut (ps_for PassesOwn.never rfl (pi_list (pe_fld (pv 0) rfl)) (pg_tup rfl (pgs_cons (pg_name (i := 3) nd rfl (Or.inl rfl)) (pgs_cons (pg_name (i := 4) nd rfl (Or.inl rfl)) pgs_nil))) (pss_one (ps_set (i := 2) nd rfl (Or.inl rfl) (pe_op (op_ownM D.sf Q_DaySet___or__ hr (by decide)) (pv 2) (pe_op (op_ownM D.sf Q_DaySet___and__ hr (by decide)) (pv 3) (pe_op (op_ownIM (fo := some (.builtin "int.__rshift__")) (ro := some (.builtin "int.__rrshift__")) D.sf Q_DaySet___rshift__ D.r_rshift hr (by decide) D.i_rshift D.i_rrshift D.si) (pe_un (un_ownNegM Q_DaySet___neg__ hr (by decide)) (pv 4)) (pv 1)))))))
      (pss_one (ps_ret (pv 2))))), ?_⟩
  obtain ⟨dx, lp, xs, R, hp1, hlp, hR, lR, _⟩ := hp
  refine ⟨rfl, rfl, fun f0 H1 l1 d0 n0 => ?_⟩
  refine ⟨fun σ' H' => Le H H' ∧ ∃ fo x3 x4, σ' = [some (.ref p), some (.int time), some (.ref fo), x3, x4] ∧ IsDay C H' fo (fun n => R.any fun x => x.1 n && x.2 (-(n - time))), ?_, ?_⟩
  · refine ⟨_, rfl, _, _, _, _, _, rfl, l1 _ _ hp1, DC.cl, DC.n_pairs, by rfl, _, rfl, ⟨_, .of (l1 _ _ hlp)⟩, ?_⟩
    refine for_list (xs := xs) (fun i σ' H' => Le H H' ∧ ∃ fo x3 x4, σ' = [some (.ref p), some (.int time), some (.ref fo), x3, x4] ∧ IsDay C H' fo (fun n => (R.take i).any fun x => x.1 n && x.2 (-(n - time))) ∧ Ok (fun n => (R.take i).any fun x => x.1 n && x.2 (-(n - time))) 12 400) ?_ ?_ ?_ ?_
    · exact ⟨l1, f0, _, _, rfl, d0, Ok.kst (by decide) (by decide) (by decide) (by decide)⟩
    · rintro i σ' H' _ ⟨le, _⟩
      exact .of (le _ _ hlp)
    · rintro i x σ' H' hx ⟨le, fo, x3, x4, rfl, hf, of⟩
      obtain ⟨r, hr1, t, a, b, rfl, ht, da, db, oa, ob⟩ := hR.get hx
      have db' := db.le le
      have da' := da.le le
      obtain ⟨_, _, _, _, _, hb1⟩ := id db'
      rw [take_snoc hr1, anyT_snoc]
      refine ⟨t, _, rfl, .of (le _ _ ht), rfl, _, _, rfl, _, _, rfl, rfl, ?_⟩
      refine ⟨_, rfl, _, rfl, _, rfl, _, _, _, rfl, hb1, b, r.2, rfl, db', fun ng H3 l3 dng nng => ?_⟩
      obtain ⟨_, _, _, _, _, hn1⟩ := id dng
      refine ⟨_, rfl, _, _, _, _, rfl, rfl, hn1, ng, time, _, rfl, dng, fun sh H4 l4 dsh nsh => ?_⟩
      obtain ⟨_, _, _, _, _, hs1⟩ := id dsh
      have da4 := (da'.le l3).le l4
      obtain ⟨_, _, _, _, _, ha1⟩ := id da4
      have osh : Ok (fun n => (fun n => r.2 (-n)) (n - time)) 12 400 := (ob.neg' (b' := 201) (by decide) (by decide)).mv (by omega) (by omega) (by decide)
      refine ⟨_, _, _, _, _, _, rfl, rfl, ha1, hs1, a, sh, r.1, _, 12, 400, rfl, da4, dsh, oa.mono (by decide) (by decide), osh, fun an H5 l5 dan nan => ?_⟩
      obtain ⟨_, _, _, _, _, hn2⟩ := id dan
      have hf5 := ((hf.le l3).le l4).le l5
      obtain ⟨_, _, _, _, _, hf1⟩ := id hf5
      have oan := (oa.mono (b' := 400) (by decide) (by decide)).bin osh fun x y => x && y
      refine ⟨_, _, _, _, _, _, rfl, rfl, hf1, hn2, fo, an, _, _, 12, 400, rfl, hf5, dan, of, oan, fun nw H6 l6 dn nn => ?_⟩
      exact ⟨(((le.trans l3).trans l4).trans l5).trans l6, nw, _, _, rfl, dn, of.bin oan fun x y => x || y⟩
    · rintro σ' H' ⟨le, fo, x3, x4, rfl, hf, of⟩
      rw [hR.len, List.take_length] at hf
      exact ⟨le, fo, _, _, rfl, hf⟩
  rintro σ' H' ⟨le, fo, x3, x4, rfl, hf⟩
  have e : (fun n => R.any fun x => x.1 n && x.2 (-(n - time))) = fun n => g n (time - n) := by
    funext n
    rw [show -(n - time) = time - n by omega]
    obtain ⟨r, hr, hd⟩ := lR.t.cov n
    cases hg : g n (time - n) with
    | true =>
      refine List.any_eq_true.mpr ⟨r, hr, ?_⟩
      rw [lR.t.is r hr n hd, hg, hd]
      rfl
    | false =>
      refine List.any_eq_false.mpr fun s hs => ?_
      rw [Bool.and_eq_true]
      rintro ⟨h1, h2⟩
      rw [lR.t.is s hs n h1, hg] at h2
      cases h2
  exact ⟨_, rfl, qq fo H' le (e ▸ hf)⟩
end
end Od
end
section
set_option Elab.async false
set_option linter.all false
set_option maxRecDepth 100000
set_option maxHeartbeats 2000000
set_option autoImplicit false
/-! the program's chart of a tree -/
namespace Od
open PySem PySem.Spec PyProof.Rows L2 C8 Day NdefX LamX
abbrev s__law_chart_made : Stmt := top 38
abbrev N__law_chart_made : List Str := ["_law_tree", "_law_one", "_law_two"]
abbrev P__law_chart_made : List Str := ["_law_tree"]
theorem sc__law_chart_made : FnScope N__law_chart_made P__law_chart_made (C8.fnScope s__law_chart_made) := fnScope_by (by decide +kernel)
theorem opS_of (o : Nat) : decide (V.str (opS o) = V.str ("of" : Str)) = false := by
  match o with
  | 0 => decide +kernel
  | 1 => decide +kernel
  | 2 => decide +kernel
  | n + 3 => exact (by decide +kernel : decide (V.str ("^" : Str) = V.str ("of" : Str)) = false)
theorem opS_inv (o : Nat) : decide (V.str (opS o) = V.str ("~" : Str)) = false := by
  match o with
  | 0 => decide +kernel
  | 1 => decide +kernel
  | 2 => decide +kernel
  | n + 3 => exact (by decide +kernel : decide (V.str ("^" : Str) = V.str ("~" : Str)) = false)
theorem kstS_of (b : Bool) : decide (V.str (kstS b) = V.str ("of" : Str)) = false := by cases b <;> decide +kernel
theorem kstS_every (b : Bool) : decide (V.str (kstS b) = V.str ("every" : Str)) = b := by cases b <;> decide +kernel
theorem W4.words {F : Frm} (h : W4 F) : (Txt.join (" " : Str) (words4 F.l F.low F.m F.r)).length ≤ 4 * (3 * 8 + 15) :=
  words_len (b := 8) (by have := h.ll; omega) h.lm (by have := h.lr; omega) (by have := h.k0; have := h.k1; omega)
section
variable {P : Program} {w : World} {K : PySem.W.Frag} {mg : Str → Option Value} {base : Heap}
def sp_cmadeU (C X : Addr) (M : Nat) : Sp := fun vs H Q _ => ∃ (v : V) (c : CT), vs = [v] ∧ TreeAt H v c ∧ c.ok ∧ c.dep ≤ M ∧ c.m ≤ 1000 ∧ ∀ r H', Le H H' → IsChart C X H' r c.g → Q (.ref r) H'
def sp_cmadeP (C X : Addr) : Nat → Sp
  | 0 => fun _ _ _ _ => False
  | M + 1 => sp_cmadeU C X M
theorem c_cmade0 {C X : Addr} (F : DefOf K mg "_law_chart_made" s__law_chart_made P__law_chart_made) (k : Nat) : Cal P w K mg base (k + 1) "_law_chart_made" (sp_cmadeP C X 0) [] := by
  obtain ⟨f, fd, F, B⟩ := F
  exact cal0 F B .nil sc__law_chart_made (fun vs H Q E h => h.elim) (fun cdv A outer s H vs Q E hr h => h.elim)
theorem c_cmadeS {C X : Addr} (M : Nat) (T : Txt K mg) (D : DSC K mg C) (DC : DCC K mg X) (F : DefOf K mg "_law_chart_made" s__law_chart_made P__law_chart_made) (C__law_chart_made : Cal P w K mg base (11 + M) "_law_chart_made" (sp_cmadeP C X M) []) (K_DaySet_read : CMt P w K mg base 6 C "read" (sp_read C)) (K_Chart_of : CMt P w K mg base 11 X "of" (sp_cof C X)) (K_Chart_none : CMt P w K mg base 11 X "none" (sp_ckst C X false)) (K_Chart_every : CMt P w K mg base 11 X "every" (sp_ckst C X true))
    (Q_Chart___invert__ : Met P w K mg base 11 X "__invert__" (sp_cinv C X) []) (Q_Chart___or__ : Met P w K mg base 11 X "__or__" (sp_cbin C X fun a b => a || b) []) (Q_Chart___and__ : Met P w K mg base 11 X "__and__" (sp_cbin C X fun a b => a && b) []) (Q_Chart___sub__ : Met P w K mg base 11 X "__sub__" (sp_cbin C X fun a b => a && !b) []) (Q_Chart___xor__ : Met P w K mg base 11 X "__xor__" (sp_cbin C X fun a b => a != b) []) :
    Cal P w K mg base (12 + M) "_law_chart_made" (sp_cmadeU C X M) [] := by
  obtain ⟨f, fd, F, B⟩ := F
  rw [show 12 + M = 11 + M + 1 by omega]
  refine cal0 F B .nil sc__law_chart_made (fun vs H Q E h => by obtain ⟨_, _, rfl, _⟩ := h; rfl) (fun cdv A outer s H vs Q E hr h => ?_)
  obtain ⟨v, c, rfl, tr, ok, dp, cm, qq⟩ := h
  have nd := sc__law_chart_made.nd
  refine ⟨_, (pss_cons (ps_if (pt_cmpR op_eq (pe_ix ix_tup (pv 0) pe_int (fun _ _ => rfl)) pe_str (nomark _)) (pss_one (ps_ret (pe_cm K_Chart_of hr (by omega) (pe_gc rfl DC.g) (pa_cons (pe_cm K_DaySet_read hr (by omega) (pe_gc rfl D.g) (pa_cons (pe_join pe_str (pe_ix ix_tup (pv 0) pe_int (fun _ _ => rfl))) pa_nil)) (pa_cons (pe_cm K_DaySet_read hr (by omega) (pe_gc rfl D.g) (pa_cons (pe_join pe_str (pe_ix ix_tup (pv 0) pe_int (fun _ _ => rfl))) pa_nil)) pa_nil))))) pss_nil)
      (pss_cons (ps_if (pt_cmpR op_eq (pe_callB call_len_seq (by rfl) T.b_len (by decide +kernel) (pa_cons (pv 0) pa_nil)) pe_int (nomark _)) (pss_one (ps_ret (pe_ifExp (pt_cmpR op_eq (pe_ix ix_tup (pv 0) pe_int (fun _ _ => rfl)) pe_str (nomark _)) (pe_cm0 K_Chart_every hr (by omega) (pe_gc rfl DC.g)) (pe_cm0 K_Chart_none hr (by omega) (pe_gc rfl DC.g))))) pss_nil)
      (pss_cons (ps_set (i := 1) nd rfl (Or.inl rfl) (pe_c C__law_chart_made hr (by omega) rfl (pa_cons (pe_ix ix_tup (pv 0) pe_int (fun _ _ => rfl)) pa_nil)))
      (pss_cons (ps_if (pt_cmpR op_eq (pe_ix ix_tup (pv 0) pe_int (fun _ _ => rfl)) pe_str (nomark _)) (pss_one (ps_ret (pe_un (un_ownInvM Q_Chart___invert__ hr (by omega)) (pv 1)))) pss_nil)
      (pss_cons (ps_set (i := 2) nd rfl (Or.inl rfl) (pe_c C__law_chart_made hr (by omega) rfl (pa_cons (pe_ix ix_tup (pv 0) pe_int (fun _ _ => rfl)) pa_nil)))
      (pss_cons (ps_if (PW.pt (pw_or (pt_cmpR op_eq (pe_ix ix_tup (pv 0) pe_int (fun _ _ => rfl)) pe_str (nomark _)) (pw_or1 (pt_cmpR op_eq (pe_ix ix_tup (pv 0) pe_int (fun _ _ => rfl)) pe_str (nomark _))))) (pss_one (ps_ret (pe_ifExp (pt_cmpR op_eq (pe_ix ix_tup (pv 0) pe_int (fun _ _ => rfl)) pe_str (nomark _)) (pe_op (op_ownM DC.sf Q_Chart___or__ hr (by omega)) (pv 1) (pv 2)) (pe_op (op_ownM DC.sf Q_Chart___and__ hr (by omega)) (pv 1) (pv 2))))) pss_nil)
      (pss_one (ps_ret (pe_ifExp (pt_cmpR op_eq (pe_ix ix_tup (pv 0) pe_int (fun _ _ => rfl)) pe_str (nomark _)) (pe_op (op_ownM DC.sf Q_Chart___sub__ hr (by omega)) (pv 1) (pv 2)) (pe_op (op_ownM DC.sf Q_Chart___xor__ hr (by omega)) (pv 1) (pv 2))))))))))), ?_⟩
  cases c with
  | of a b =>
    obtain ⟨t, x, y, rfl, ht, hx, hy⟩ := tr
    obtain ⟨wa, wb⟩ := ok
    refine ⟨_, rfl, _, _, _, .str "of", rfl, rfl, .of ht, atI_nat (j := 0) rfl, rfl, _, rfl, ?_⟩
    refine ite2 (fun _ => ?_) (fun c => absurd (by decide +kernel) c)
    have rd : ∀ {F : Frm}, W4 F → ((words4 F.l F.low F.m F.r).map (·.length)).sum + (words4 F.l F.low F.m F.r).length * (" " : Str).length ≤ 16777216 := fun {F} wf => by
      have e7 : ((" " : Str)).length = 1 := by decide +kernel
      have h8 : (numS F.low).length ≤ 9 := numS_len (by decide) (by have := wf.k0; have := wf.k1; omega)
      have h9 : (midS F.m).length ≤ 9 := by
        unfold midS
        split
        · have : (("-" : Str)).length = 1 := by decide +kernel
          omega
        · have := wf.lm; rw [rowS_len]; omega
      have := wf.ll
      have := wf.lr
      rw [e7]
      simp only [words4, List.map_cons, List.map_nil, List.sum_cons, List.sum_nil, List.length_cons, List.length_nil, rowS_len]
      omega
    refine ⟨rfl, rfl, ⟨_, rfl⟩, _, rfl, _, _, _, .ref x, rfl, rfl, .of ht, atI_nat (j := 1) rfl, _, x, words4 a.l a.low a.m a.r, rfl, rfl, .inl (.of hx), rd wa, ?_⟩
    have hwa := wa.words
    have hwb := wb.words
    refine ⟨a.l, a.low, a.m, a.r, rfl, wa.l0, wa.r0, by have := wa.ll; omega, by have := wa.lm; omega, by have := wa.lr; omega, by have := wa.k0; have := wa.k1; omega, by omega, fun p H1 l1 dp1 np => ?_⟩
    refine ⟨rfl, ⟨_, rfl⟩, _, rfl, _, _, _, .ref y, rfl, rfl, .of (l1 _ _ ht), atI_nat (j := 2) rfl, _, y, words4 b.l b.low b.m b.r, rfl, rfl, .inl (.of (l1 _ _ hy)), rd wb, ?_⟩
    refine ⟨b.l, b.low, b.m, b.r, rfl, wb.l0, wb.r0, by have := wb.ll; omega, by have := wb.lm; omega, by have := wb.lr; omega, by have := wb.k0; have := wb.k1; omega, by omega, fun q H2 l2 dq nq => ?_⟩
    exact ⟨p, q, a.mem, b.mem, rfl, dp1.le l2, dq, wa.ok.mono (by decide) (by decide), wb.ok.mono (by decide) (by decide), fun r H3 l3 hc nc => qq r H3 ((l1.trans l2).trans l3) hc⟩
  | kst b =>
    obtain ⟨t, rfl, ht⟩ := tr
    refine ⟨_, rfl, _, _, _, .str (kstS b), rfl, rfl, .of ht, atI_nat (j := 0) rfl, rfl, _, rfl, ?_⟩
    rw [kstS_of]
    refine ite2 (fun c => absurd c (by decide)) (fun _ => ?_)
    refine ⟨_, rfl, t, _, rfl, .inr (.of ht), rfl, _, rfl, ?_⟩
    refine ite2 (fun _ => ?_) (fun c => absurd (show decide (V.int ((1 : Nat) : Int) = V.int 1) = true by decide) c)
    refine ⟨_, rfl, _, _, _, .str (kstS b), rfl, rfl, .of ht, atI_nat (j := 0) rfl, rfl, _, rfl, ?_⟩
    rw [kstS_every]
    cases b with
    | true =>
      refine ite2 (fun _ => ?_) (fun c => absurd rfl c)
      exact ⟨rfl, rfl, fun r H' le hc nc => qq r H' le hc⟩
    | false =>
      refine ite2 (fun c => absurd c (by decide)) (fun _ => ?_)
      exact ⟨rfl, rfl, fun r H' le hc nc => qq r H' le hc⟩
  | inv c =>
    obtain ⟨t, u, rfl, ht, hu⟩ := tr
    obtain ⟨M', rfl⟩ : ∃ M', M = M' + 1 := ⟨M - 1, by have : c.dep + 1 ≤ M := dp; omega⟩
    have dp' : c.dep ≤ M' := by have : c.dep + 1 ≤ M' + 1 := dp; omega
    obtain ⟨κ, kk⟩ := c.kinds
    refine ⟨_, rfl, _, _, _, .str "~", rfl, rfl, .of ht, atI_nat (j := 0) rfl, rfl, _, rfl, ?_⟩
    refine ite2 (fun c => absurd c (by decide +kernel)) (fun _ => ?_)
    refine ⟨_, rfl, t, _, rfl, .inr (.of ht), rfl, _, rfl, ?_⟩
    refine ite2 (fun c => absurd c (show ¬ decide (V.int ((2 : Nat) : Int) = V.int 1) = true by decide)) (fun _ => ?_)
    refine ⟨_, rfl, _, _, _, u, rfl, rfl, .of ht, atI_nat (j := 1) rfl, u, c, rfl, hu, ok, dp', cm, fun r H1 l1 hc => ?_⟩
    obtain ⟨_, _, _, _, hr1, _⟩ := id hc
    refine ⟨_, rfl, _, _, _, .str "~", rfl, rfl, .of (l1 _ _ ht), atI_nat (j := 0) rfl, rfl, _, rfl, ?_⟩
    refine ite2 (fun _ => ?_) (fun c => absurd (by decide +kernel) c)
    exact ⟨_, rfl, _, _, _, rfl, hr1, r, c.g, κ, c.m, rfl, hc, kk, cm, fun r' H2 l2 hc2 nc => qq r' H2 (l1.trans l2) hc2⟩
  | bin o c e =>
    obtain ⟨t, u, u', rfl, ht, hu, hu'⟩ := tr
    obtain ⟨ho, okc, oke⟩ := ok
    obtain ⟨M', rfl⟩ : ∃ M', M = M' + 1 := ⟨M - 1, by have : max c.dep e.dep + 1 ≤ M := dp; omega⟩
    have dp1 : c.dep ≤ M' := by have : max c.dep e.dep + 1 ≤ M' + 1 := dp; omega
    have dp2 : e.dep ≤ M' := by have : max c.dep e.dep + 1 ≤ M' + 1 := dp; omega
    obtain ⟨κ1, k1⟩ := c.kinds
    obtain ⟨κ2, k2⟩ := e.kinds
    obtain ⟨kk1, kk2⟩ := k1.two k2
    have cm : c.m * e.m ≤ 1000 := cm
    have pc : 0 < c.m := Nat.lt_of_le_of_lt (Nat.zero_le _) (k1.lt 0)
    have pe : 0 < e.m := Nat.lt_of_le_of_lt (Nat.zero_le _) (k2.lt 0)
    have cm1 : c.m ≤ 1000 := Nat.le_trans (Nat.le_mul_of_pos_right _ pe) cm
    have cm2 : e.m ≤ 1000 := Nat.le_trans (Nat.le_mul_of_pos_left _ pc) cm
    refine ⟨_, rfl, _, _, _, .str (opS o), rfl, rfl, .of ht, atI_nat (j := 0) rfl, rfl, _, rfl, ?_⟩
    rw [opS_of]
    refine ite2 (fun c => absurd c (by decide)) (fun _ => ?_)
    refine ⟨_, rfl, t, _, rfl, .inr (.of ht), rfl, _, rfl, ?_⟩
    refine ite2 (fun c => absurd c (show ¬ decide (V.int ((3 : Nat) : Int) = V.int 1) = true by decide)) (fun _ => ?_)
    refine ⟨_, rfl, _, _, _, u, rfl, rfl, .of ht, atI_nat (j := 1) rfl, u, c, rfl, hu, okc, dp1, cm1, fun r H1 l1 hc => ?_⟩
    have ht1 := l1 _ _ ht
    refine ⟨_, rfl, _, _, _, .str (opS o), rfl, rfl, .of ht1, atI_nat (j := 0) rfl, rfl, _, rfl, ?_⟩
    rw [opS_inv]
    refine ite2 (fun c => absurd c (by decide)) (fun _ => ?_)
    refine ⟨_, rfl, _, _, _, u', rfl, rfl, .of ht1, atI_nat (j := 2) rfl, u', e, rfl, hu'.le l1, oke, dp2, cm2, fun r' H2 l2 he => ?_⟩
    have ht2 := l2 _ _ ht1
    have hc2 := hc.le l2
    obtain ⟨_, _, _, _, hr1, _⟩ := id hc2
    obtain ⟨_, _, _, _, hr2, _⟩ := id he
    obtain rfl | rfl | rfl | rfl : o = 0 ∨ o = 1 ∨ o = 2 ∨ o = 3 := by omega
    · refine ⟨_, rfl, _, _, _, .str (opS 0), rfl, rfl, .of ht2, atI_nat (j := 0) rfl, rfl, _, rfl, ?_⟩
      refine ite2 (fun _ => ?_) (fun c => absurd (by decide +kernel) c)
      refine ⟨_, rfl, _, _, _, .str (opS 0), rfl, rfl, .of ht2, atI_nat (j := 0) rfl, rfl, _, rfl, ?_⟩
      refine ite2 (fun _ => ?_) (fun c => absurd (by decide +kernel) c)
      exact ⟨_, rfl, _, rfl, _, _, _, _, _, _, rfl, rfl, hr1, hr2, r, r', c.g, e.g, _, _, rfl, hc2, he, kk1, kk2, cm, fun r3 H3 l3 h3 n3 => qq r3 H3 ((l1.trans l2).trans l3) h3⟩
    · refine ⟨_, rfl, _, _, _, .str (opS 1), rfl, rfl, .of ht2, atI_nat (j := 0) rfl, rfl, _, rfl, ?_⟩
      refine ite2 (fun c => absurd c (by decide +kernel)) (fun _ => ?_)
      refine ⟨_, rfl, _, _, _, .str (opS 1), rfl, rfl, .of ht2, atI_nat (j := 0) rfl, rfl, _, rfl, ?_⟩
      refine ite2 (fun _ => ?_) (fun c => absurd (by decide +kernel) c)
      refine ⟨_, rfl, _, _, _, .str (opS 1), rfl, rfl, .of ht2, atI_nat (j := 0) rfl, rfl, _, rfl, ?_⟩
      refine ite2 (fun c => absurd c (by decide +kernel)) (fun _ => ?_)
      exact ⟨_, rfl, _, rfl, _, _, _, _, _, _, rfl, rfl, hr1, hr2, r, r', c.g, e.g, _, _, rfl, hc2, he, kk1, kk2, cm, fun r3 H3 l3 h3 n3 => qq r3 H3 ((l1.trans l2).trans l3) h3⟩
    · refine ⟨_, rfl, _, _, _, .str (opS 2), rfl, rfl, .of ht2, atI_nat (j := 0) rfl, rfl, _, rfl, ?_⟩
      refine ite2 (fun c => absurd c (by decide +kernel)) (fun _ => ?_)
      refine ⟨_, rfl, _, _, _, .str (opS 2), rfl, rfl, .of ht2, atI_nat (j := 0) rfl, rfl, _, rfl, ?_⟩
      refine ite2 (fun c => absurd c (by decide +kernel)) (fun _ => ?_)
      refine ⟨_, rfl, _, _, _, .str (opS 2), rfl, rfl, .of ht2, atI_nat (j := 0) rfl, rfl, _, rfl, ?_⟩
      refine ite2 (fun _ => ?_) (fun c => absurd (by decide +kernel) c)
      exact ⟨_, rfl, _, rfl, _, _, _, _, _, _, rfl, rfl, hr1, hr2, r, r', c.g, e.g, _, _, rfl, hc2, he, kk1, kk2, cm, fun r3 H3 l3 h3 n3 => qq r3 H3 ((l1.trans l2).trans l3) h3⟩
    · refine ⟨_, rfl, _, _, _, .str (opS 3), rfl, rfl, .of ht2, atI_nat (j := 0) rfl, rfl, _, rfl, ?_⟩
      refine ite2 (fun c => absurd c (by decide +kernel)) (fun _ => ?_)
      refine ⟨_, rfl, _, _, _, .str (opS 3), rfl, rfl, .of ht2, atI_nat (j := 0) rfl, rfl, _, rfl, ?_⟩
      refine ite2 (fun c => absurd c (by decide +kernel)) (fun _ => ?_)
      refine ⟨_, rfl, _, _, _, .str (opS 3), rfl, rfl, .of ht2, atI_nat (j := 0) rfl, rfl, _, rfl, ?_⟩
      refine ite2 (fun c => absurd c (by decide +kernel)) (fun _ => ?_)
      exact ⟨_, rfl, _, rfl, _, _, _, _, _, _, rfl, rfl, hr1, hr2, r, r', c.g, e.g, _, _, rfl, hc2, he, kk1, kk2, cm, fun r3 H3 l3 h3 n3 => qq r3 H3 ((l1.trans l2).trans l3) h3⟩
end
end Od
end
section
set_option Elab.async false
set_option linter.all false
set_option maxRecDepth 100000
set_option maxHeartbeats 2000000
set_option autoImplicit false
/-! lambdas that are given back -/
namespace Od
open PySem PySem.Spec PyProof.Rows L2 C8 Day NdefX LamX
/-! ### where a lambda stands in a text -/
def stAt (l : List Stmt) (i : Nat) : Stmt := l.getD i (.Pass ⟨0, 0, 0, 0⟩)
def noE : Expr := .Constant .none 0 ⟨0, 0, 0, 0⟩
def retE : Stmt → Expr
  | .Return (some e) _ => e
  | _ => noE
def ifB : Stmt → List Stmt
  | .If _ b _ _ => b
  | _ => []
def tupE (k : Nat) : Expr → Expr
  | .Tuple es _ _ => es.getD k noE
  | _ => noE
def lamA : Expr → Arguments
  | .Lambda p _ _ _ => p
  | _ => ⟨[], [], none, [], [], none, []⟩
def lamB : Expr → Expr
  | .Lambda _ b _ _ => b
  | _ => noE
def lamC : Expr → Scope
  | .Lambda _ _ s _ => s
  | _ => ⟨.function, [], false, false, []⟩
/-- a lambda: its words, the cells that it captured, its code object -/
structure LF where
  qual : Str
  params : Arguments
  body : Expr
  scope : Scope
  cl : List (Str × Addr)
  c : Addr
/-- the same as a def without a body: for its frame -/
def LF.nf (F : LF) : NF := ⟨"<lambda>", F.qual, F.params, [], F.scope, F.cl, F.c⟩
def LnO (f : Addr) (F : LF) : HO := .ext fun h => ∃ pm ctv : Value, h.get? f = some (PySem.W.kla_obj "<lambda>" F.qual F.params F.body F.scope F.cl pm F.c ctv)
section
variable {X : Cx} {pins : List (Addr × Obj)} {σ : L2.St} {H : Hp} {s : Shared}
theorem inv_ln {F : LF} {t' : Nat} {pm ctv : Value} (I : Inv X pins σ H s) : Inv X pins σ (upd H s.heap.objs.size (LnO s.heap.objs.size F)) { s with heap := s.heap.push (PySem.W.kla_obj "<lambda>" F.qual F.params F.body F.scope F.cl pm F.c ctv), toks := t' } := by
  refine I.laid (a := s.heap.objs.size) (fun b u e => Heap.get?_push_of_some _ e) (Nat.le_refl _) ?_
  have e := Heap.get?_push_size s.heap (o := PySem.W.kla_obj "<lambda>" F.qual F.params F.body F.scope F.cl pm F.c ctv) rfl
  exact ⟨⟨pm, ctv, e⟩, ⟨_, e⟩, fun h1 h2 ⟨p, t, z⟩ st => ⟨p, t, st _ z⟩⟩
theorem lam_make {T : List NTab} {nm : Nat → Nat → Str} {c P : Addr} {params : Arguments} {body : Expr} {scope : Scope} {pos : Pos} {E : Value → Shared → Prop} {Q : Value → Shared → Prop} (I : Inv X pins σ H s) (TB : TabB X.base X.mg c P) (hcode : X.env.code = .ref c)
    (hm : (P, nm) ∈ T) (hn : nm pos.line pos.col = X.env.qual ++ "<lambda>") (hu : ∀ p ∈ T, p.1 = P → p.2 = nm) (hT : TabsN T H) (hdef : defaultsOf params X.env = ([], [])) (hfree : ∀ y ∈ scope.names, y.2 = .free → ∃ c, X.env.cells.lookup y.1 = some c)
    (h : ∀ (f c' : Addr) (H1 : Hp) (s' : Shared), Inv X pins σ H1 s' → ExtN H H1 → TabsN T H1 → H f = none → H1 f = some (LnO f ⟨X.env.qual ++ "<lambda>", params, body, scope, cloFrom X.env.cells scope.names [], c'⟩) → H1 c' = some (CodeO c' (X.env.qual ++ "<lambda>")) → Q (.ref f) s') :
    wpAny (model X.prog X.w) X.A (eval (.Lambda params body scope pos) X.env) Q E s := by
  refine PySem.W.kla_eval hdef ?_
  obtain ⟨ps, hP, ht, ha⟩ := (show TabN H P nm from hT _ hm)
  have bP : s.heap.BuiltinsAt X.mg P := TB.bm.keeps I.bk
  have hP' : s.heap.get? P = some { cls := .none, data := .fields ps } := I.hok P _ hP
  cases hc : codeAmong pos ps.toList with
  | none =>
    refine PySem.W.kla_makeFunction (mg := X.mg) (c := c) (P := P) (ps := ps) (closure_ok hfree) I.ok.glob (I.mod.glob.keeps I.bk) hcode (TB.code.keeps I.bk) hP' ht hc TB.gP bP fun c' ctv h' tk hx hge hlt hrec htb => ?_
    obtain ⟨c2, oc, vs, t, e2, hoc, hd, hv⟩ := hrec
    cases e2
    have nC : H c' = none := I.hok.fresh hge
    have I1 := inv_table (t' := tk) (more := #[rawInt pos.line, rawInt pos.col, .ref c']) (h' := h') I hP (fun b o hb e => hx b o hb e) htb hge ⟨oc, vs, t, hoc, hd, hv⟩
    have hE : ExtN H (upd (upd H P (.tbl (ps ++ #[rawInt pos.line, rawInt pos.col, .ref c']))) c' (CodeO c' (X.env.qual ++ "<lambda>"))) := fun b o e n => by
      rw [upd_ne (ne_of_none e nC), upd_ne (fun z => n ps (Option.some.inj (e.symm.trans (by rw [z]; exact hP))))]
      exact e
    have eL : (ps ++ #[rawInt pos.line, rawInt pos.col, .ref c']).toList = ps.toList ++ [rawInt pos.line, rawInt pos.col, .ref c'] := by simp
    have T1 : TabsN T (upd (upd H P (.tbl (ps ++ #[rawInt pos.line, rawInt pos.col, .ref c']))) c' (CodeO c' (X.env.qual ++ "<lambda>"))) := fun p hp => by
      by_cases hb : p.1 = P
      · rw [hu p hp hb, hb]
        refine ⟨_, by rw [upd_ne (ne_of_none hP nC), upd_same], by rw [eL]; exact PySem.TriplesOk_snoc _ _ _ _ ht, fun p' cv hcv => ?_⟩
        rw [eL] at hcv
        rcases among_app2 _ ht hcv with z | ⟨z, z1, z2⟩
        · obtain ⟨c0, e1, e2⟩ := ha p' cv z
          exact ⟨c0, e1, hE _ _ e2 codeO_ne⟩
        · refine ⟨c', z, ?_⟩
          rw [← z1, ← z2, hn]
          exact upd_same
      · obtain ⟨ps', a1, a2, a3⟩ := hT p hp
        refine ⟨ps', by rw [upd_ne (ne_of_none a1 nC), upd_ne hb]; exact a1, a2, fun p' cv hcv => ?_⟩
        obtain ⟨c0, e1, e2⟩ := a3 p' cv hcv
        exact ⟨c0, e1, hE _ _ e2 codeO_ne⟩
    have nF := I1.hok.fresh (Nat.le_refl _)
    have I2 := inv_ln (F := ⟨X.env.qual ++ "<lambda>", params, body, scope, cloFrom X.env.cells scope.names [], c'⟩) (t' := tk) (pm := (X.mg "__name__").getD .none) (ctv := ctv) I1
    refine h h'.objs.size c' _ _ I2 (fun b o e n => ?_) (T1.ext fun b o e => ?_) (I.hok.fresh (Nat.le_trans hge (Nat.le_of_lt hlt))) upd_same ?_
    · have e1 := hE b o e n
      exact (upd_ne (ne_of_none e1 nF)).trans e1
    · exact (upd_ne (ne_of_none e nF)).trans e
    · exact (upd_ne (Nat.ne_of_lt hlt)).trans upd_same
  | some cv =>
    obtain ⟨c', e, hco⟩ := ha pos cv hc
    subst e
    rw [hn] at hco
    refine PySem.W.kla_makeFunctionHit (mg := X.mg) (c := c) (P := P) (ps := ps) (closure_ok hfree) I.ok.glob (I.mod.glob.keeps I.bk) hcode (TB.code.keeps I.bk) hP' ht hc bP fun ctv h' tk hx hsz => ?_
    have I1 : Inv X pins σ H { s with heap := h', toks := tk } := I.kept hx
    have nF : H h'.objs.size = none := I1.hok.fresh (Nat.le_refl _)
    have I2 := inv_ln (F := ⟨X.env.qual ++ "<lambda>", params, body, scope, cloFrom X.env.cells scope.names [], c'⟩) (t' := tk) (pm := (X.mg "__name__").getD .none) (ctv := ctv) I1
    refine h h'.objs.size c' _ _ I2 (fun b o e n => ?_) (hT.ext fun b o e => ?_) nF upd_same ?_
    · exact (upd_ne (ne_of_none e nF)).trans e
    · exact (upd_ne (ne_of_none e nF)).trans e
    · exact (upd_ne (ne_of_none hco nF)).trans hco
end
/-- lambda ..: .. -/
def tLamX (T : List NTab) (mk : Addr → LF) : TE := fun _ H Q => TabsN T H ∧ ∀ (f c' : Addr) (H1 : Hp), ExtN H H1 → TabsN T H1 → H f = none → H1 f = some (LnO f (mk c')) → H1 c' = some (CodeO c' (mk c').qual) → Q (.ref f) H1
theorem pe_lamX {X : Cx} {T : List NTab} {nm : Nat → Nat → Str} {c P : Addr} {params : Arguments} {body : Expr} {scope : Scope} {pos : Pos} (TB : TabB X.base X.mg c P) (hcode : X.env.code = .ref c) (hm : (P, nm) ∈ T) (hn : nm pos.line pos.col = X.env.qual ++ "<lambda>") (hu : ∀ p ∈ T, p.1 = P → p.2 = nm)
    (hdef : defaultsOf params X.env = ([], [])) (hfree : ∀ y ∈ scope.names, y.2 = .free → X.env.scope.names.lookup y.1 = some .cell ∨ X.env.scope.names.lookup y.1 = some .free) :
    PE X (.Lambda params body scope pos) (tLamX T fun c' => ⟨X.env.qual ++ "<lambda>", params, body, scope, cloFrom X.env.cells scope.names [], c'⟩) := by
  refine ⟨fun pins s σ H Q I h => ?_⟩
  obtain ⟨hT, h⟩ := h
  have hfr : ∀ y ∈ scope.names, y.2 = .free → ∃ c, X.env.cells.lookup y.1 = some c := fun y hy e => (hfree y hy e).elim (fun z => I.ok.has _ (.inl z)) fun z => I.ok.has _ (.inr z)
  exact lam_make I TB hcode hm hn hu hT hdef hfr fun f c' H1 s' I1 eN T1 f0 f1 c1 => ⟨.ref f, H1, I1, rfl, h f c' H1 eN T1 f0 f1 c1⟩
/-! ### the lambda behind its maker's end -/
section
variable {P : Program} {w : World} {K : PySem.W.Frag} {mg : Str → Option Value} {base : Heap}
theorem cls_gen {k : Nat} {p : Addr} {F : NF} {fr : List Str} {W : List (Option V)} {S0 : List Addr} {H : Hp} {g : List V → Option V} {O : HO} (hO : FnH p O) (ext : ∃ φ : Heap → Prop, O = .ext φ) (Fn : ∀ (A : Around) (outer : List Env) (s : Shared) (H' : Hp) (us : List Value) (vs : List V) (Q : VK) (E : XK), Room k A → Env0 P w K mg base A outer s H' → H' p = some O → H' F.c = some (CodeO F.c F.qual) →
    CellsAt F.cl fr W s.heap H' → Vals vs us → spC W S0 H g W vs H' Q E → codeAny (model P w) A (.call (.ref p) ⟨us, []⟩) (CR C8.CX0 outer P w H' s Q E) s) (hp : H p = some O) (hc : H F.c = some (CodeO F.c F.qual))
    (hall : ∀ y c, F.cl.lookup y = some c → ∃ v, H c = some (CellO c v)) (inj : ∀ x y c, F.cl.lookup x = some c → F.cl.lookup y = some c → x = y)
    (has : ∀ (i : Nat) (y : Str), fr[i]? = some y → ∃ c, F.cl.lookup y = some c ∧ ∀ v, W[i]? = some (some v) → ∃ u, L2.RelV v u ∧ H c = some (CellO c (some u))) (hl : W.length = fr.length)
    (hS : ∀ a ∈ S0, (∀ y, F.cl.lookup y ≠ some a) ∧ ∃ o, H a = some o ∧ Kd o) (npc : ∀ y, F.cl.lookup y ≠ some p) (nfc : ∀ y, F.cl.lookup y ≠ some F.c) : ∃ S, ClS P w K mg base k S H p g ∧ ∀ a ∈ S, a ∈ S0 ∨ ∃ φ : Heap → Prop, H a = some (.ext φ) := by
  classical
  let C : List Addr := (F.cl.map (·.1)).filterMap fun y => F.cl.lookup y
  have hC : ∀ a, a ∈ C ↔ ∃ y, F.cl.lookup y = some a := fun a => by
    constructor
    · intro h
      obtain ⟨y, _, e⟩ := List.mem_filterMap.mp h
      exact ⟨y, e⟩
    · rintro ⟨y, e⟩
      exact List.mem_filterMap.mpr ⟨y, List.mem_map.mpr ⟨(y, a), PySem.mem_of_lookup e, rfl⟩, e⟩
  refine ⟨p :: F.c :: (C ++ S0), ⟨List.mem_cons_self, fun a ha => ?_, ⟨_, hp, ?_⟩, fun H' ag A outer s us vs r hr e0 hv hg => ?_⟩, fun a ha => ?_⟩
  rotate_right
  · rcases List.mem_cons.mp ha with rfl | ha
    · obtain ⟨φ, e⟩ := ext
      exact .inr ⟨φ, e ▸ hp⟩
    rcases List.mem_cons.mp ha with rfl | ha
    · exact .inr ⟨_, hc⟩
    rcases List.mem_append.mp ha with ha | ha
    · obtain ⟨y, e⟩ := (hC a).mp ha
      obtain ⟨v, q⟩ := hall y a e
      exact .inr ⟨_, q⟩
    · exact .inl ha
  · rcases List.mem_cons.mp ha with rfl | ha
    · obtain ⟨φ, e⟩ := ext
      exact ⟨_, hp, by rw [e]; exact True.intro⟩
    rcases List.mem_cons.mp ha with rfl | ha
    · exact ⟨_, hc, True.intro⟩
    rcases List.mem_append.mp ha with ha | ha
    · obtain ⟨y, e⟩ := (hC a).mp ha
      obtain ⟨v, q⟩ := hall y a e
      exact ⟨_, q, True.intro⟩
    · exact (hS a ha).2
  · exact hO
  · let Hm : Hp := fun a => if a ∈ C then none else H' a
    have agP : H' p = some O := (ag p List.mem_cons_self).trans hp
    have agC : ∀ y c, F.cl.lookup y = some c → H' c = H c := fun y c e => ag c (List.mem_cons_of_mem _ (List.mem_cons_of_mem _ (List.mem_append_left _ ((hC c).mpr ⟨y, e⟩))))
    have mOut : ∀ a, a ∉ C → Hm a = H' a := fun a n => if_neg n
    have mIn : ∀ a, a ∈ C → Hm a = none := fun a n => if_pos n
    have mSome : ∀ a o, Hm a = some o → H' a = some o := fun a o e => by
      by_cases q : a ∈ C
      · rw [mIn a q] at e; cases e
      · rw [← mOut a q]; exact e
    have mNone : ∀ a, H' a = none → Hm a = none := fun a e => by
      by_cases q : a ∈ C
      · exact mIn a q
      · rw [mOut a q]; exact e
    have cellH : ∀ a, a ∈ C → ∃ v, H' a = some (CellO a v) := fun a q => by
      obtain ⟨y, e⟩ := (hC a).mp q
      obtain ⟨v, z⟩ := hall y a e
      exact ⟨v, (agC y a e).trans z⟩
    have hokm : HOk P w Hm s.heap := fun a o e => by
      refine (e0.hok a o (mSome a o e)).stay (fun _ _ _ q => q) (fun b q => ?_) fun b xs q => ?_
      · rw [mOut b fun z => by obtain ⟨v, z⟩ := cellH b z; rw [q] at z; cases z]
        exact q
      · rw [mOut b fun z => by obtain ⟨v, z⟩ := cellH b z; rw [q] at z; cases z]
        exact q
    have e0m : Env0 P w K mg base A outer s Hm := ⟨e0.frames, e0.mod, fun b o e => ⟨(e0.bs b o e).1, mNone b (e0.bs b o e).2⟩, e0.bsz, e0.funs, fun b hb => mNone b (e0.frf b hb), hokm, e0.bare⟩
    have hpm : Hm p = some O := by
      rw [mOut p fun z => by obtain ⟨y, e⟩ := (hC p).mp z; exact npc y e]
      exact agP
    have hcm : Hm F.c = some (CodeO F.c F.qual) := by
      rw [mOut F.c fun z => by obtain ⟨y, e⟩ := (hC F.c).mp z; exact nfc y e]
      exact (ag F.c (List.mem_cons_of_mem _ List.mem_cons_self)).trans hc
    have cat : CellsAt F.cl fr W s.heap Hm := by
      refine ⟨hl, fun y c e => ?_, inj, fun i y e => ?_⟩
      · obtain ⟨v, z⟩ := cellH c ((hC c).mpr ⟨y, e⟩)
        exact ⟨mIn c ((hC c).mpr ⟨y, e⟩), v, cellO_at e0.hok z⟩
      · obtain ⟨c, hc', hv'⟩ := has i y e
        refine ⟨c, hc', fun v ev => ?_⟩
        obtain ⟨u, r', z⟩ := hv' v ev
        exact ⟨u, r', cellO_at e0.hok ((agC y c hc').trans z)⟩
    refine codeAny_mono (Fn A outer s Hm us vs (fun v H2 => v = r ∧ H2 = Hm) C8.E0 hr e0m hpm hcm cat hv ⟨rfl, fun a ha => ?_, r, hg, rfl, rfl⟩) fun rr s' hq => ?_
    · rw [mOut a fun z => by obtain ⟨y, e⟩ := (hC a).mp z; exact (hS a ha).1 y e]
      exact ag a (List.mem_cons_of_mem _ (List.mem_cons_of_mem _ (List.mem_append_right _ ha)))
    · cases rr with
      | error e => exact hq
      | ok fl =>
        cases fl with
        | ret u =>
          obtain ⟨v, H2, os, bare, un, hok2, rv, ev, eH⟩ := hq
          subst eH
          refine ⟨v, H', os, bare, ⟨fun b o e n => un.keep b o e (mNone b n), fun b o e n => un.slot b o e (mNone b n), fun b o e n _ => n, un.there, fun _ _ e => e, fun _ _ _ e => e, fun b ps e => ⟨#[], by rw [e]; simp⟩⟩, fun a o e => ?_, rv, ev, rfl⟩
          by_cases q : a ∈ C
          · obtain ⟨v2, z⟩ := cellH a q
            rw [z] at e
            cases e
            have ic := cellO_at e0.hok z
            obtain ⟨ob, eo, ed⟩ := ic
            refine cellO_ok ⟨ob, un.keep a ob eo (mIn a q) (fun hb => ?_) (by simp), ed⟩
            have := e0.frf a hb
            rw [z] at this
            cases this
          · have e2 : Hm a = some o := by rw [mOut a q]; exact e
            exact (hok2 a o e2).stay (fun _ _ _ q => q) (fun b q => mSome b _ q) fun b xs q => mSome b _ q
        | next => exact hq
        | brk => exact hq
        | cont => exact hq
/-- its promise, by its body -/
theorem lok_of {k : Nat} {p : Addr} {F : LF} {N ps fr : List Str} {W : List (Option V)} {S0 : List Addr} {H0 : Hp} {g : List V → Option V} (S : NScope N ps fr F.scope)
    (hb : ∀ (pm ctv : Value) (us : List Value), us.length = ps.length → bindArgs (PySem.W.kla_fn "<lambda>" F.qual F.params F.body F.scope F.cl pm (.ref F.c) ctv) ⟨us, []⟩ = pure (ps.zip us)) (len : ∀ vs r, g vs = some r → vs.length = ps.length)
    (hbody : ∀ (A : Around) (outer : List Env) (s : Shared) (H : Hp) (vs : List V) (Q : VK) (E : XK) (r : V), Room k (A.deeper (envF F.nf p s.heap.objs.size)) → (∀ a ∈ S0, H a = H0 a) → g vs = some r → Q r H →
      ∃ t, PE (ncx C8.CX0 P w K mg base N F.nf p A outer s H E) F.body t ∧ t (startF N vs W) H Q) :
    ∀ (A : Around) (outer : List Env) (s : Shared) (H' : Hp) (us : List Value) (vs : List V) (Q : VK) (E : XK), Room (k + 1) A → Env0 P w K mg base A outer s H' → H' p = some (LnO p F) → H' F.nf.c = some (CodeO F.nf.c F.nf.qual) →
      CellsAt F.nf.cl fr W s.heap H' → Vals vs us → spC W S0 H0 g W vs H' Q E → codeAny (model P w) A (.call (.ref p) ⟨us, []⟩) (CR C8.CX0 outer P w H' s Q E) s := by
  intro A outer s H' us vs Q E hr e0 hf hc C r hsp
  obtain ⟨_, ag, y, hg, q⟩ := hsp
  have hl := len _ _ hg
  have lim : s.heap.NoLimit := e0.mod.nolimit.keeps fun b o e => (e0.bs b o e).1
  obtain ⟨⟨pm, ctv, ho⟩, _, _⟩ := e0.hok p _ hf
  obtain ⟨⟨oc, vs', t', hoc, hdc, hvc⟩, _, _⟩ := e0.hok _ _ hc
  refine PySem.W.kla_callFunE hr.depth ho rfl S.co S.gen rfl ⟨F.c, oc, vs', t', rfl, hoc, hdc, hvc⟩ ?_
  rw [hb pm ctv us (by rw [← r.length]; exact hl)]
  refine wpAny_pure (wpAny_newFunctionEnv S.nocell (fun ⟨n, _⟩ hy => S.par n (List.of_mem_zip hy).1) (fun h₁ hns hsb => ⟨lim.fresh _ hsb, ?_⟩) S.kind)
  show codeAny _ _ (.expr F.body (envF F.nf p s.heap.objs.size)) _ _
  have kp : ∀ b o, s.heap.get? b = some o → h₁.get? b = some o := fun b o e => hsb.extBut b o (Nat.ne_of_lt (Heap.lt_size e)) (Heap.get?_push_of_some _ e)
  obtain ⟨t, ht, hq⟩ := hbody A outer s H' vs Q E y (hr.deeper _) ag hg q
  have I : Inv (ncx C8.CX0 P w K mg base N F.nf p A outer s H' E) [] (startF N vs W) H' { s with heap := h₁, toks := s.toks + (ps.zip us).length } := inv_startN S hr.hd e0 hl r C hns kp
  refine PySem.W.kla_codeExpr (wpAny_mono (ht.run [] _ (startF N vs W) H' Q I hq) (fun v s' hs => ?_) fun e s' hs => hs)
  obtain ⟨x, H2, J, rv, q2⟩ := hs
  exact ⟨x, H2, J.os, J.bare, J.base, J.hok, rv, q2⟩
theorem esc_lamS {N fr : List Str} {sc : Scope} {cells : List (Str × Addr)} {σ : L2.St} {H' H'' : Hp} {n k : Nat} {q : Str} {params : Arguments} {body : Expr} {scope : Scope} {c' p : Addr} {js : List Nat} {S0 : List Addr} {g : List V → Option V}
    (es : Esc N sc cells σ H' H'') (hB : ndefB sc scope fr = true) (hnf : ∀ y ∈ sc.names, y.2 ≠ .free) (hcs : cells = cellsFrom n sc.names []) (hjs : js.map (fun j => N[j]?) = fr.map some)
    (Fn : ∀ (A : Around) (outer : List Env) (s : Shared) (H' : Hp) (us : List Value) (vs : List V) (Q : VK) (E : XK), Room k A → Env0 P w K mg base A outer s H' → H' p = some (LnO p ⟨q, params, body, scope, cloFrom cells scope.names [], c'⟩) → H' c' = some (CodeO c' q) →
      CellsAt (cloFrom cells scope.names []) fr (js.map (slotAt σ)) s.heap H' → Vals vs us → spC (js.map (slotAt σ)) S0 H'' g (js.map (slotAt σ)) vs H' Q E → codeAny (model P w) A (.call (.ref p) ⟨us, []⟩) (CR C8.CX0 outer P w H' s Q E) s)
    (hp : H' p = some (LnO p ⟨q, params, body, scope, cloFrom cells scope.names [], c'⟩)) (hc : H' c' = some (CodeO c' q)) (hS : ∀ a ∈ S0, ∃ o, H' a = some o ∧ Kd o) : ∃ S, ClS P w K mg base k S H'' p g ∧ ∀ a ∈ S, a ∈ S0 ∨ ∃ φ : Heap → Prop, H'' a = some (.ext φ) := by
  have hk : ∀ y, sc.names.lookup y = some .cell ∨ sc.names.lookup y = some .free → sc.names.lookup y = some .cell := fun y h => h.elim id fun z => absurd rfl (hnf _ (PySem.mem_of_lookup z))
  have hfree : ∀ y ∈ scope.names, y.2 = .free → ∃ c, cells.lookup y.1 = some c := fun y hy e => by
    rw [hcs]
    exact cell_has (hk _ (ndef_free hB y hy e))
  have none_ : ∀ {a : Addr} {o : HO}, H' a = some o → ∀ y, (cloFrom cells scope.names []).lookup y ≠ some a := fun {a o} e y z => by
    rw [es.none y a (clo_cm hfree z)] at e
    cases e
  refine cls_gen (F := (⟨q, params, body, scope, cloFrom cells scope.names [], c'⟩ : LF).nf) ⟨_, rfl, fun h ⟨pm, ctv, z⟩ => ⟨_, _, _, _, z⟩⟩ ⟨_, rfl⟩ Fn (es.le _ _ hp) (es.le _ _ hc) (fun y c e => es.all y c (clo_cm hfree e)) (fun x y c e1 e2 => es.inj x y c (clo_cm hfree e1) (clo_cm hfree e2)) (fun i y e => ?_) ?_ (fun a ha => ?_) (none_ hp) (none_ hc)
  · have e2 : (js.map fun j => N[j]?)[i]? = some (some y) := by
      rw [hjs, List.getElem?_map, e] <;> rfl
    rw [List.getElem?_map] at e2
    cases ej : js[i]? with
    | none =>
      rw [ej] at e2
      cases e2
    | some j =>
      rw [ej] at e2
      have hj : N[j]? = some y := Option.some.inj (show some (N[j]?) = some (some y) from e2)
      have hy := ndef_fr hB y (List.mem_of_getElem? e)
      have hcell := hk y (ndef_free hB (y, .free) hy rfl)
      obtain ⟨c, hc'⟩ := hfree (y, .free) hy rfl
      have hc' : cells.lookup y = some c := hc'
      refine ⟨c, clo_has hfree hy hc', fun v ev => ?_⟩
      rw [List.getElem?_map, ej] at ev
      have ev2 : σ[j]? = some (some v) := slotAt_some (Option.some.inj (show some (slotAt σ j) = some (some v) from ev))
      obtain ⟨c2, u, h1, h2, h3⟩ := es.cell j y v hj hcell ev2
      rw [hc'] at h1
      cases h1
      exact ⟨u, h2, h3⟩
  · have q := congrArg List.length hjs
    rw [List.length_map, List.length_map] at q
    rw [List.length_map]
    exact q
  · obtain ⟨o, e, kd⟩ := hS a ha
    exact ⟨none_ e, o, es.le _ _ e, kd⟩
theorem esc_lam {N fr : List Str} {sc : Scope} {cells : List (Str × Addr)} {σ : L2.St} {H' H'' : Hp} {n k : Nat} {q : Str} {params : Arguments} {body : Expr} {scope : Scope} {c' p : Addr} {js : List Nat} {S0 : List Addr} {g : List V → Option V}
    (es : Esc N sc cells σ H' H'') (hB : ndefB sc scope fr = true) (hnf : ∀ y ∈ sc.names, y.2 ≠ .free) (hcs : cells = cellsFrom n sc.names []) (hjs : js.map (fun j => N[j]?) = fr.map some)
    (Fn : ∀ (A : Around) (outer : List Env) (s : Shared) (H' : Hp) (us : List Value) (vs : List V) (Q : VK) (E : XK), Room k A → Env0 P w K mg base A outer s H' → H' p = some (LnO p ⟨q, params, body, scope, cloFrom cells scope.names [], c'⟩) → H' c' = some (CodeO c' q) →
      CellsAt (cloFrom cells scope.names []) fr (js.map (slotAt σ)) s.heap H' → Vals vs us → spC (js.map (slotAt σ)) S0 H'' g (js.map (slotAt σ)) vs H' Q E → codeAny (model P w) A (.call (.ref p) ⟨us, []⟩) (CR C8.CX0 outer P w H' s Q E) s)
    (hp : H' p = some (LnO p ⟨q, params, body, scope, cloFrom cells scope.names [], c'⟩)) (hc : H' c' = some (CodeO c' q)) (hS : ∀ a ∈ S0, ∃ o, H' a = some o ∧ Kd o) : ClAt P w K mg base k H'' p g := by
  obtain ⟨S, h, _⟩ := esc_lamS es hB hnf hcs hjs Fn hp hc hS
  exact ⟨S, h⟩
theorem esc_lamE {N fr : List Str} {sc : Scope} {cells : List (Str × Addr)} {σ : L2.St} {H' H'' : Hp} {n k : Nat} {q : Str} {params : Arguments} {body : Expr} {scope : Scope} {c' p : Addr} {js : List Nat} {S0 : List Addr} {g : List V → Option V}
    (es : Esc N sc cells σ H' H'') (hB : ndefB sc scope fr = true) (hnf : ∀ y ∈ sc.names, y.2 ≠ .free) (hcs : cells = cellsFrom n sc.names []) (hjs : js.map (fun j => N[j]?) = fr.map some)
    (Fn : ∀ (A : Around) (outer : List Env) (s : Shared) (H' : Hp) (us : List Value) (vs : List V) (Q : VK) (E : XK), Room k A → Env0 P w K mg base A outer s H' → H' p = some (LnO p ⟨q, params, body, scope, cloFrom cells scope.names [], c'⟩) → H' c' = some (CodeO c' q) →
      CellsAt (cloFrom cells scope.names []) fr (js.map (slotAt σ)) s.heap H' → Vals vs us → spC (js.map (slotAt σ)) S0 H'' g (js.map (slotAt σ)) vs H' Q E → codeAny (model P w) A (.call (.ref p) ⟨us, []⟩) (CR C8.CX0 outer P w H' s Q E) s)
    (hp : H' p = some (LnO p ⟨q, params, body, scope, cloFrom cells scope.names [], c'⟩)) (hc : H' c' = some (CodeO c' q)) (hS : ∀ a ∈ S0, ∃ φ : Heap → Prop, H' a = some (.ext φ)) : ClAtE P w K mg base k H'' p g := by
  obtain ⟨S, h, e⟩ := esc_lamS es hB hnf hcs hjs Fn hp hc fun a ha => by
    obtain ⟨φ, z⟩ := hS a ha
    exact ⟨_, z, True.intro⟩
  refine ⟨S, h, fun a ha => (e a ha).elim (fun z => ?_) id⟩
  obtain ⟨φ, q⟩ := hS a z
  exact ⟨φ, es.le _ _ q⟩
/-- what two functions lean on -/
theorem one_S {k : Nat} {H : Hp} {c : Addr} {g : List V → Option V} (k1 : ClAt P w K mg base k H c g) : ∃ S : List Addr, (∀ a ∈ S, ∃ o, H a = some o ∧ Kd o) ∧ ∀ H1 : Hp, Le H H1 → ∀ H2 : Hp, (∀ a ∈ S, H2 a = H1 a) → ClAt P w K mg base k H2 c g := by
  obtain ⟨S, h⟩ := k1
  refine ⟨S, h.2.1, fun H1 l H2 e => ⟨S, h.of fun a ha => ?_⟩⟩
  obtain ⟨o, e1, _⟩ := h.2.1 a ha
  rw [e a ha, l a o e1, e1]
theorem two_S {k : Nat} {H : Hp} {c d : Addr} {g g' : List V → Option V} (k1 : ClAt P w K mg base k H c g) (k2 : ClAt P w K mg base k H d g') : ∃ S : List Addr, (∀ a ∈ S, ∃ o, H a = some o ∧ Kd o) ∧ ∀ H1 : Hp, Le H H1 → ∀ H2 : Hp, (∀ a ∈ S, H2 a = H1 a) → ClAt P w K mg base k H2 c g ∧ ClAt P w K mg base k H2 d g' := by
  obtain ⟨S, s1, s2⟩ := one_S k1
  obtain ⟨Z, z1, z2⟩ := one_S k2
  refine ⟨S ++ Z, fun a ha => (List.mem_append.mp ha).elim (s1 a) (z1 a), fun H1 l H2 e => ⟨s2 H1 l H2 fun a ha => e a (List.mem_append_left _ ha), z2 H1 l H2 fun a ha => e a (List.mem_append_right _ ha)⟩⟩
theorem one_SE {k : Nat} {H : Hp} {c : Addr} {g : List V → Option V} (k1 : ClAtE P w K mg base k H c g) : ∃ S : List Addr, (∀ a ∈ S, ∃ φ : Heap → Prop, H a = some (.ext φ)) ∧ ∀ H1 : Hp, Le H H1 → ∀ H2 : Hp, (∀ a ∈ S, H2 a = H1 a) → ClAt P w K mg base k H2 c g := by
  obtain ⟨S, h, e⟩ := k1
  refine ⟨S, e, fun H1 l H2 e2 => ⟨S, h.of fun a ha => ?_⟩⟩
  obtain ⟨o, e1, _⟩ := h.2.1 a ha
  rw [e2 a ha, l a o e1, e1]
theorem two_SE {k : Nat} {H : Hp} {c d : Addr} {g g' : List V → Option V} (k1 : ClAtE P w K mg base k H c g) (k2 : ClAtE P w K mg base k H d g') : ∃ S : List Addr, (∀ a ∈ S, ∃ φ : Heap → Prop, H a = some (.ext φ)) ∧ ∀ H1 : Hp, Le H H1 → ∀ H2 : Hp, (∀ a ∈ S, H2 a = H1 a) → ClAt P w K mg base k H2 c g ∧ ClAt P w K mg base k H2 d g' := by
  obtain ⟨S, s1, s2⟩ := one_SE k1
  obtain ⟨Z, z1, z2⟩ := one_SE k2
  refine ⟨S ++ Z, fun a ha => (List.mem_append.mp ha).elim (s1 a) (z1 a), fun H1 l H2 e => ⟨s2 H1 l H2 fun a ha => e a (List.mem_append_left _ ha), z2 H1 l H2 fun a ha => e a (List.mem_append_right _ ha)⟩⟩
end
end Od
end
section
set_option Elab.async false
set_option linter.all false
set_option maxRecDepth 100000
set_option maxHeartbeats 2000000
set_option autoImplicit false
/-! functions given back that lay lists of their own while they work -/
namespace Od
open PySem PySem.Spec PyProof.Rows L2 C8 Day NdefX LamX
/-- more is tracked, lists alone -/
def GrowL (H H' : Hp) : Prop := Le H H' ∧ ∀ b o, H' b = some o → H b = some o ∨ ∃ xs, o = .lst xs
theorem GrowL.refl {H : Hp} : GrowL H H := ⟨.refl, fun _ _ e => .inl e⟩
theorem GrowL.trans {H H1 H2 : Hp} (a : GrowL H H1) (b : GrowL H1 H2) : GrowL H H2 := ⟨a.1.trans b.1, fun x o e => (b.2 x o e).elim (fun e => a.2 x o e) .inr⟩
theorem GrowL.new {H : Hp} {D : Addr} {xs : List V} (h : H D = none) : GrowL H (upd H D (.lst xs)) := ⟨.new h, fun b o e => by
  by_cases c : b = D
  · rw [c, upd_self] at e
    exact .inr ⟨xs, (Option.some.inj e).symm⟩
  · rw [upd_ne c] at e
    exact .inl e⟩
theorem GrowL.upd {H H' : Hp} {D : Addr} {xs : List V} (g : GrowL H H') (h : H D = none) : GrowL H (upd H' D (.lst xs)) := ⟨g.1.upd h, fun b o e => by
  by_cases c : b = D
  · rw [c, upd_self] at e
    exact .inr ⟨xs, (Option.some.inj e).symm⟩
  · rw [upd_ne c] at e
    exact g.2 b o e⟩
def spCG (W : List (Option V)) (S0 : List Addr) (H0 : Hp) (g : List V → Option V) : List (Option V) → Sp := fun ws vs H Q _ => ws = W ∧ (∀ a ∈ S0, H a = H0 a) ∧ ∃ r, g vs = some r ∧ ∀ H', GrowL H H' → Q r H'
section
variable {P : Program} {w : World} {K : PySem.W.Frag} {mg : Str → Option Value} {base : Heap}
theorem cls_ofG {k : Nat} {p : Addr} {F : NF} {ps fr : List Str} {W : List (Option V)} {S0 : List Addr} {H : Hp} {g : List V → Option V} (Fn : NOk P w K mg base C8.CX0 k p F ps fr (spCG W S0 H g)) (hp : H p = some (FnO p F)) (hc : H F.c = some (CodeO F.c F.qual))
    (hall : ∀ y c, F.cl.lookup y = some c → ∃ v, H c = some (CellO c v)) (inj : ∀ x y c, F.cl.lookup x = some c → F.cl.lookup y = some c → x = y)
    (has : ∀ (i : Nat) (y : Str), fr[i]? = some y → ∃ c, F.cl.lookup y = some c ∧ ∀ v, W[i]? = some (some v) → ∃ u, L2.RelV v u ∧ H c = some (CellO c (some u))) (hl : W.length = fr.length)
    (hS : ∀ a ∈ S0, (∀ y, F.cl.lookup y ≠ some a) ∧ ∃ o, H a = some o ∧ Kd o) (npc : ∀ y, F.cl.lookup y ≠ some p) (nfc : ∀ y, F.cl.lookup y ≠ some F.c) : ∃ S, ClS P w K mg base k S H p g ∧ ∀ a ∈ S, a ∈ S0 ∨ ∃ φ : Heap → Prop, H a = some (.ext φ) := by
  classical
  let C : List Addr := (F.cl.map (·.1)).filterMap fun y => F.cl.lookup y
  have hC : ∀ a, a ∈ C ↔ ∃ y, F.cl.lookup y = some a := fun a => by
    constructor
    · intro h
      obtain ⟨y, _, e⟩ := List.mem_filterMap.mp h
      exact ⟨y, e⟩
    · rintro ⟨y, e⟩
      exact List.mem_filterMap.mpr ⟨y, List.mem_map.mpr ⟨(y, a), PySem.mem_of_lookup e, rfl⟩, e⟩
  refine ⟨p :: F.c :: (C ++ S0), ⟨List.mem_cons_self, fun a ha => ?_, ⟨_, hp, ?_⟩, fun H' ag A outer s us vs r hr e0 hv hg => ?_⟩, fun a ha => ?_⟩
  rotate_right
  · rcases List.mem_cons.mp ha with rfl | ha
    · exact .inr ⟨_, hp⟩
    rcases List.mem_cons.mp ha with rfl | ha
    · exact .inr ⟨_, hc⟩
    rcases List.mem_append.mp ha with ha | ha
    · obtain ⟨y, e⟩ := (hC a).mp ha
      obtain ⟨v, q⟩ := hall y a e
      exact .inr ⟨_, q⟩
    · exact .inl ha
  · rcases List.mem_cons.mp ha with rfl | ha
    · exact ⟨_, hp, True.intro⟩
    rcases List.mem_cons.mp ha with rfl | ha
    · exact ⟨_, hc, True.intro⟩
    rcases List.mem_append.mp ha with ha | ha
    · obtain ⟨y, e⟩ := (hC a).mp ha
      obtain ⟨v, q⟩ := hall y a e
      exact ⟨_, q, True.intro⟩
    · exact (hS a ha).2
  · exact ⟨_, rfl, fun h ⟨od, sl, doc, pm, ctv, z⟩ => ⟨_, od, _, sl, z⟩⟩
  · let Hm : Hp := fun a => if a ∈ C then none else H' a
    have agP : H' p = some (FnO p F) := (ag p List.mem_cons_self).trans hp
    have agC : ∀ y c, F.cl.lookup y = some c → H' c = H c := fun y c e => ag c (List.mem_cons_of_mem _ (List.mem_cons_of_mem _ (List.mem_append_left _ ((hC c).mpr ⟨y, e⟩))))
    have mOut : ∀ a, a ∉ C → Hm a = H' a := fun a n => if_neg n
    have mIn : ∀ a, a ∈ C → Hm a = none := fun a n => if_pos n
    have mSome : ∀ a o, Hm a = some o → H' a = some o := fun a o e => by
      by_cases q : a ∈ C
      · rw [mIn a q] at e; cases e
      · rw [← mOut a q]; exact e
    have mNone : ∀ a, H' a = none → Hm a = none := fun a e => by
      by_cases q : a ∈ C
      · exact mIn a q
      · rw [mOut a q]; exact e
    have cellH : ∀ a, a ∈ C → ∃ v, H' a = some (CellO a v) := fun a q => by
      obtain ⟨y, e⟩ := (hC a).mp q
      obtain ⟨v, z⟩ := hall y a e
      exact ⟨v, (agC y a e).trans z⟩
    have hokm : HOk P w Hm s.heap := fun a o e => by
      refine (e0.hok a o (mSome a o e)).stay (fun _ _ _ q => q) (fun b q => ?_) fun b xs q => ?_
      · rw [mOut b fun z => by obtain ⟨v, z⟩ := cellH b z; rw [q] at z; cases z]
        exact q
      · rw [mOut b fun z => by obtain ⟨v, z⟩ := cellH b z; rw [q] at z; cases z]
        exact q
    have e0m : Env0 P w K mg base A outer s Hm := ⟨e0.frames, e0.mod, fun b o e => ⟨(e0.bs b o e).1, mNone b (e0.bs b o e).2⟩, e0.bsz, e0.funs, fun b hb => mNone b (e0.frf b hb), hokm, e0.bare⟩
    have hpm : Hm p = some (FnO p F) := by
      rw [mOut p fun z => by obtain ⟨y, e⟩ := (hC p).mp z; exact npc y e]
      exact agP
    have hcm : Hm F.c = some (CodeO F.c F.qual) := by
      rw [mOut F.c fun z => by obtain ⟨y, e⟩ := (hC F.c).mp z; exact nfc y e]
      exact (ag F.c (List.mem_cons_of_mem _ List.mem_cons_self)).trans hc
    have cat : CellsAt F.cl fr W s.heap Hm := by
      refine ⟨hl, fun y c e => ?_, inj, fun i y e => ?_⟩
      · obtain ⟨v, z⟩ := cellH c ((hC c).mpr ⟨y, e⟩)
        exact ⟨mIn c ((hC c).mpr ⟨y, e⟩), v, cellO_at e0.hok z⟩
      · obtain ⟨c, hc', hv'⟩ := has i y e
        refine ⟨c, hc', fun v ev => ?_⟩
        obtain ⟨u, r', z⟩ := hv' v ev
        exact ⟨u, r', cellO_at e0.hok ((agC y c hc').trans z)⟩
    refine codeAny_mono (Fn.run A outer s Hm us vs W (fun v H2 => v = r ∧ GrowL Hm H2) C8.E0 hr e0m hpm hcm cat hv ⟨rfl, fun a ha => ?_, r, hg, fun H2 g2 => ⟨rfl, g2⟩⟩) fun rr s' hq => ?_
    · rw [mOut a fun z => by obtain ⟨y, e⟩ := (hC a).mp z; exact (hS a ha).1 y e]
      exact ag a (List.mem_cons_of_mem _ (List.mem_cons_of_mem _ (List.mem_append_right _ ha)))
    · cases rr with
      | error e => exact hq
      | ok fl =>
        cases fl with
        | ret u =>
          obtain ⟨v, H2, os, bare, un, hok2, rv, ev, eH⟩ := hq
          refine ⟨v, H', os, bare, ⟨fun b o e n => un.keep b o e (mNone b n), fun b o e n => un.slot b o e (mNone b n), fun b o e n _ => n, un.there, fun _ _ e => e, fun _ _ _ e => e, fun b ps e => ⟨#[], by rw [e]; simp⟩⟩, fun a o e => ?_, rv, ev, rfl⟩
          by_cases q : a ∈ C
          · obtain ⟨v2, z⟩ := cellH a q
            rw [z] at e
            cases e
            have ic := cellO_at e0.hok z
            obtain ⟨ob, eo, ed⟩ := ic
            refine cellO_ok ⟨ob, un.keep a ob eo (mIn a q) (fun hb => ?_) (by simp), ed⟩
            have := e0.frf a hb
            rw [z] at this
            cases this
          · have e2 : Hm a = some o := by rw [mOut a q]; exact e
            exact (hok2 a o (eH.1 _ _ e2)).stay (fun _ _ _ q => q) (fun b q => mSome b _ ((eH.2 b _ q).elim id fun ⟨_, z⟩ => by cases z)) fun b xs q => mSome b _ ((eH.2 b _ q).elim id fun ⟨_, z⟩ => by cases z)
        | next => exact hq
        | brk => exact hq
        | cont => exact hq
theorem esc_clsSG {N fr : List Str} {sc : Scope} {cells : List (Str × Addr)} {σ : L2.St} {H' H'' : Hp} {n k : Nat} {st : Stmt} {name q : Str} {c' p : Addr} {ps : List Str} {js : List Nat} {S0 : List Addr} {g : List V → Option V}
    (es : Esc N sc cells σ H' H'') (hB : ndefB sc (C8.fnScope st) fr = true) (hnf : ∀ y ∈ sc.names, y.2 ≠ .free) (hcs : cells = cellsFrom n sc.names []) (hjs : js.map (fun j => N[j]?) = fr.map some)
    (Fn : NOk P w K mg base C8.CX0 k p (NF.of st name q (cloFrom cells (C8.fnScope st).names []) c') ps fr (spCG (js.map (slotAt σ)) S0 H'' g))
    (hp : H' p = some (FnO p (NF.of st name q (cloFrom cells (C8.fnScope st).names []) c'))) (hc : H' c' = some (CodeO c' q)) (hS : ∀ a ∈ S0, ∃ o, H' a = some o ∧ Kd o) : ∃ S, ClS P w K mg base k S H'' p g ∧ ∀ a ∈ S, a ∈ S0 ∨ ∃ φ : Heap → Prop, H'' a = some (.ext φ) := by
  have hk : ∀ y, sc.names.lookup y = some .cell ∨ sc.names.lookup y = some .free → sc.names.lookup y = some .cell := fun y h => h.elim id fun z => absurd rfl (hnf _ (PySem.mem_of_lookup z))
  have hfree : ∀ y ∈ (C8.fnScope st).names, y.2 = .free → ∃ c, cells.lookup y.1 = some c := fun y hy e => by
    rw [hcs]
    exact cell_has (hk _ (ndef_free hB y hy e))
  have none_ : ∀ {a : Addr} {o : HO}, H' a = some o → ∀ y, (cloFrom cells (C8.fnScope st).names []).lookup y ≠ some a := fun {a o} e y z => by
    rw [es.none y a (clo_cm hfree z)] at e
    cases e
  refine cls_ofG Fn (es.le _ _ hp) (es.le _ _ hc) (fun y c e => es.all y c (clo_cm hfree e)) (fun x y c e1 e2 => es.inj x y c (clo_cm hfree e1) (clo_cm hfree e2)) (fun i y e => ?_) ?_ (fun a ha => ?_) (none_ hp) (none_ hc)
  · have e2 : (js.map fun j => N[j]?)[i]? = some (some y) := by
      rw [hjs, List.getElem?_map, e] <;> rfl
    rw [List.getElem?_map] at e2
    cases ej : js[i]? with
    | none =>
      rw [ej] at e2
      cases e2
    | some j =>
      rw [ej] at e2
      have hj : N[j]? = some y := Option.some.inj (show some (N[j]?) = some (some y) from e2)
      have hy := ndef_fr hB y (List.mem_of_getElem? e)
      have hcell := hk y (ndef_free hB (y, .free) hy rfl)
      obtain ⟨c, hc'⟩ := hfree (y, .free) hy rfl
      have hc' : cells.lookup y = some c := hc'
      refine ⟨c, clo_has hfree hy hc', fun v ev => ?_⟩
      rw [List.getElem?_map, ej] at ev
      have ev2 : σ[j]? = some (some v) := slotAt_some (Option.some.inj (show some (slotAt σ j) = some (some v) from ev))
      obtain ⟨c2, u, h1, h2, h3⟩ := es.cell j y v hj hcell ev2
      rw [hc'] at h1
      cases h1
      exact ⟨u, h2, h3⟩
  · have q := congrArg List.length hjs
    rw [List.length_map, List.length_map] at q
    rw [List.length_map]
    exact q
  · obtain ⟨o, e, kd⟩ := hS a ha
    exact ⟨none_ e, o, es.le _ _ e, kd⟩
theorem esc_clsG {N fr : List Str} {sc : Scope} {cells : List (Str × Addr)} {σ : L2.St} {H' H'' : Hp} {n k : Nat} {st : Stmt} {name q : Str} {c' p : Addr} {ps : List Str} {js : List Nat} {S0 : List Addr} {g : List V → Option V}
    (es : Esc N sc cells σ H' H'') (hB : ndefB sc (C8.fnScope st) fr = true) (hnf : ∀ y ∈ sc.names, y.2 ≠ .free) (hcs : cells = cellsFrom n sc.names []) (hjs : js.map (fun j => N[j]?) = fr.map some)
    (Fn : NOk P w K mg base C8.CX0 k p (NF.of st name q (cloFrom cells (C8.fnScope st).names []) c') ps fr (spCG (js.map (slotAt σ)) S0 H'' g))
    (hp : H' p = some (FnO p (NF.of st name q (cloFrom cells (C8.fnScope st).names []) c'))) (hc : H' c' = some (CodeO c' q)) (hS : ∀ a ∈ S0, ∃ o, H' a = some o ∧ Kd o) : ClAt P w K mg base k H'' p g := by
  obtain ⟨S, h, _⟩ := esc_clsSG es hB hnf hcs hjs Fn hp hc hS
  exact ⟨S, h⟩
end
end Od
end
section
set_option Elab.async false
set_option linter.all false
set_option maxRecDepth 100000
set_option maxHeartbeats 2000000
set_option autoImplicit false
/-! lists of functions -/
namespace Od
open PySem PySem.Spec PyProof.Rows L2 C8 Day NdefX LamX
/-- a function of pairs -/
def gP (g : Int → Int → Bool) : List V → Option V
  | [.int d, .int a] => some (.bl (g d a))
  | _ => none
theorem gP_some {g : Int → Int → Bool} {vs : List V} {r : V} (h : gP g vs = some r) : ∃ d a, vs = [.int d, .int a] ∧ r = .bl (g d a) := by
  unfold gP at h
  split at h
  · exact ⟨_, _, rfl, (Option.some.inj h).symm⟩
  · cases h
/-- a function that leans on no list that stood in H0 -/
def ClN (P : Program) (w : World) (K : PySem.W.Frag) (mg : Str → Option Value) (base : Heap) (k : Nat) (H0 H : Hp) (p : Addr) (g : List V → Option V) : Prop := ∃ S, ClS P w K mg base k S H p g ∧ ∀ a ∈ S, ∀ xs, H a = some (.lst xs) → ∀ o, H0 a = some o → ∃ ps, o = .tbl ps
section
variable {P : Program} {w : World} {K : PySem.W.Frag} {mg : Str → Option Value} {base : Heap} {k : Nat} {H0 H H' : Hp} {p D : Addr} {g : List V → Option V}
theorem ClN.at (c : ClN P w K mg base k H0 H p g) : ClAt P w K mg base k H p g := by
  obtain ⟨S, c, _⟩ := c
  exact ⟨S, c⟩
/-- all but the list D and the tables stands -/
theorem ClN.lst (c : ClN P w K mg base k H0 H p g) (l : ∀ a o, a ≠ D → (∀ ps, o ≠ .tbl ps) → H a = some o → H' a = some o) (hD : ∃ xs, H0 D = some (.lst xs)) (hl : ∃ xs, H D = some (.lst xs)) : ClN P w K mg base k H0 H' p g := by
  obtain ⟨S, c, e⟩ := c
  obtain ⟨xs, hl⟩ := hl
  obtain ⟨ys, hD⟩ := hD
  have q : ∀ a ∈ S, H' a = H a := fun a ha => by
    obtain ⟨o, ho, kd⟩ := c.2.1 a ha
    rw [ho]
    refine l a o (fun z => ?_) (fun ps z => by rw [z] at kd; exact kd) ho
    rw [z] at ha
    obtain ⟨ps, z2⟩ := e D ha xs hl _ hD
    cases z2
  refine ⟨S, c.of q, fun a ha xs hx => e a ha xs ?_⟩
  rw [← q a ha]
  exact hx
theorem ClN.n (c : ClN P w K mg base k H0 H p g) (l : ExtN H H') : ClN P w K mg base k H0 H' p g := by
  obtain ⟨S, c, e⟩ := c
  have q : ∀ a ∈ S, H' a = H a := fun a ha => by
    obtain ⟨o, ho, kd⟩ := c.2.1 a ha
    rw [ho]
    exact l a o ho fun ps z => by rw [z] at kd; exact kd
  refine ⟨S, c.of q, fun a ha xs hx => e a ha xs ?_⟩
  rw [← q a ha]
  exact hx
theorem ClN.less {H00 : Hp} (c : ClN P w K mg base k H0 H p g) (l : ∀ a o, H00 a = some o → (∀ ps, o ≠ .tbl ps) → ∃ o', H0 a = some o' ∧ ∀ ps, o' ≠ .tbl ps) : ClN P w K mg base k H00 H p g := by
  obtain ⟨S, c, e⟩ := c
  refine ⟨S, c, fun a ha xs hx o ho => Classical.byContradiction fun no => ?_⟩
  obtain ⟨o', h, n⟩ := l a o ho fun ps z => no ⟨ps, z⟩
  obtain ⟨ps, z⟩ := e a ha xs hx o' h
  exact n ps z
theorem ClAtE.cln (c : ClAtE P w K mg base k H p g) : ClN P w K mg base k H0 H p g := by
  obtain ⟨S, c, e⟩ := c
  refine ⟨S, c, fun a ha xs hx => ?_⟩
  obtain ⟨φ, z⟩ := e a ha
  rw [z] at hx
  cases hx
/-- what the functions of a list lean on -/
theorem all_S {α : Type} {G : α → Int → Int → Bool} {us : List V} {cs : List α} (h : All2 (fun v c => ∃ p, v = .ref p ∧ ClN P w K mg base k H0 H p (gP (G c))) us cs) :
    ∃ S : List Addr, (∀ a ∈ S, ∃ o, H a = some o ∧ Kd o) ∧ (∀ a ∈ S, ∀ xs, H a = some (.lst xs) → ∀ o, H0 a = some o → ∃ ps, o = .tbl ps) ∧ ∀ H1 : Hp, (∀ a ∈ S, H1 a = H a) → All2 (fun v c => ∃ p, v = .ref p ∧ ClAt P w K mg base k H1 p (gP (G c))) us cs := by
  induction h with
  | nil => exact ⟨[], fun a ha => (by cases ha), fun a ha => (by cases ha), fun H1 _ => .nil⟩
  | cons h _ ih =>
    obtain ⟨p, rfl, Z, c, e⟩ := h
    obtain ⟨S, s1, s2, s3⟩ := ih
    refine ⟨Z ++ S, fun a ha => (List.mem_append.mp ha).elim (c.2.1 a) (s1 a), fun a ha => (List.mem_append.mp ha).elim (e a) (s2 a), fun H1 q => .cons ⟨p, rfl, Z, c.of fun a ha => q a (List.mem_append_left _ ha)⟩ (s3 H1 fun a ha => q a (List.mem_append_right _ ha))⟩
theorem ClN.mono {j : Nat} (c : ClN P w K mg base j H0 H p g) (h : j ≤ k) : ClN P w K mg base k H0 H p g := by
  obtain ⟨S, ⟨c1, c2, c3, c4⟩, e⟩ := c
  exact ⟨S, ⟨c1, c2, c3, fun H' e A outer s us vs r hr => c4 H' e A outer s us vs r (hr.mono h)⟩, e⟩
end
section
variable {α γ : Type} {J : It} {G : Hp → Prop} {Y : Nat → Hp → V → Hp → Prop} {xs : List V} {g : TG} {te : TE} {vs : List Nat} {σ : L2.St} {H1 : Hp} {D : Addr} {Qd : Hp → Prop}
/-- [e for x in xs], where e lays nothing -/
theorem lc_here (w : Walk J xs.length G Y) (hY : Gives Y xs) (hD : H1 D = none) (hG : ∀ H, Le H1 H → G H) (R : List α) (hR : R.length = xs.length) (hn : xs.length ≤ sizeLine) (comb : α → V)
    (hg : ∀ (i : Nat) (x : V) (r : α) (acc : List V), xs[i]? = some x → R[i]? = some r → ∃ σx, wipe σx vs = wipe σ vs ∧ (∀ K2 : L2.St → Hp → Prop, K2 σx (upd H1 D (.lst acc)) → g x (wipe σ vs) (upd H1 D (.lst acc)) K2) ∧ ∀ N : VK, N (comb r) (upd H1 D (.lst acc)) → te σx (upd H1 D (.lst acc)) N)
    (hd : Qd (upd H1 D (.lst (R.map comb)))) :
    ∃ W : Nat → Nat → Hp → Prop, (∃ m, W 0 m (upd H1 D (.lst []))) ∧ ∀ i m H, W i m H →
      (J.stop i H ∧ Qd H) ∨ (J.go i H ∧ ∃ Nx : Hp → Prop, (∀ H', Nx H' → ∃ m', m' < m ∧ W (i + 1) m' H') ∧ ∀ x H', J.yld i H x H' → g x (wipe σ vs) H' fun σ2 H2 => wipe σ2 vs = wipe σ vs ∧ tYes σ2 H2 fun b H3 =>
        if b = true then te σ2 H3 fun y H4 => ∃ acc, H4 D = some (.lst acc) ∧ acc.length < sizeLine ∧ Nx (upd H4 D (.lst (acc ++ [y]))) else Nx H3) := by
  refine ⟨fun i m H => m = xs.length - i ∧ i ≤ xs.length ∧ H = upd H1 D (.lst ((R.take i).map comb)), ⟨_, rfl, Nat.zero_le _, rfl⟩, ?_⟩
  rintro i m H ⟨rfl, hiX, rfl⟩
  have le : Le H1 (upd H1 D (.lst ((R.take i).map comb))) := Le.new hD
  by_cases hlt : i < xs.length
  · refine .inr ⟨w.goes i _ hlt (hG _ le), fun H' => H' = upd H1 D (.lst ((R.take (i + 1)).map comb)), fun H' p => ⟨xs.length - (i + 1), by omega, rfl, hlt, p⟩, fun x H' y => ?_⟩
    obtain ⟨rfl, hx⟩ := hY i _ x H' (w.yields i _ x H' hlt (hG _ le) y)
    have hr : R[i]? = some (R[i]'(by omega)) := List.getElem?_eq_getElem _
    obtain ⟨σx, w1, w2, w3⟩ := hg i x _ _ hx hr
    refine w2 _ ⟨w1, ?_⟩
    show te σx _ _
    refine w3 _ ⟨_, upd_self, ?_, ?_⟩
    · rw [List.length_map, List.length_take]
      omega
    · rw [take_snoc hr, List.map_append]
      funext a
      by_cases c : a = D
      · rw [c, upd_self, upd_self]
        rfl
      · rw [upd_ne c, upd_ne c, upd_ne c]
  · have ei : i = xs.length := by omega
    subst ei
    have e : R.take xs.length = R := by rw [← hR, List.take_length]
    rw [e]
    exact .inl ⟨w.stops _ (hG _ (Le.new hD)), hd⟩
/-- [e for x in xs], where e lays functions -/
theorem lc_effN {TT : List NTab} (w : Walk J xs.length G Y) (hY : Gives Y xs) (hD : H1 D = none) (hT : TabsN TT H1) (hG : ∀ H, ExtN H1 H → G H) (R : List α) (hR : R.length = xs.length) (hn : xs.length ≤ sizeLine) (comb : α → γ) (Rel : V → γ → Hp → Prop)
    (mono : ∀ v s H H', (∀ a o, a ≠ D → (∀ ps, o ≠ .tbl ps) → H a = some o → H' a = some o) → (∃ acc, H D = some (.lst acc)) → Rel v s H → Rel v s H')
    (hg : ∀ (i : Nat) (x : V) (r : α) (H : Hp), xs[i]? = some x → R[i]? = some r → ExtN H1 H → (∃ acc, H D = some (.lst acc)) → TabsN TT H → ∃ σx, wipe σx vs = wipe σ vs ∧ (∀ K2 : L2.St → Hp → Prop, K2 σx H → g x (wipe σ vs) H K2) ∧ ∀ N : VK, (∀ v H2, ExtN H H2 → TabsN TT H2 → Rel v (comb r) H2 → N v H2) → te σx H N)
    (hd : ∀ H us, ExtN H1 H → TabsN TT H → H D = some (.lst us) → All2 (fun v s => Rel v s H) us (R.map comb) → Qd H) :
    ∃ W : Nat → Nat → Hp → Prop, (∃ m, W 0 m (upd H1 D (.lst []))) ∧ ∀ i m H, W i m H →
      (J.stop i H ∧ Qd H) ∨ (J.go i H ∧ ∃ Nx : Hp → Prop, (∀ H', Nx H' → ∃ m', m' < m ∧ W (i + 1) m' H') ∧ ∀ x H', J.yld i H x H' → g x (wipe σ vs) H' fun σ2 H2 => wipe σ2 vs = wipe σ vs ∧ tYes σ2 H2 fun b H3 =>
        if b = true then te σ2 H3 fun y H4 => ∃ acc, H4 D = some (.lst acc) ∧ acc.length < sizeLine ∧ Nx (upd H4 D (.lst (acc ++ [y]))) else Nx H3) := by
  have tabs : ∀ {H : Hp} {acc ac2 : List V}, TabsN TT H → H D = some (.lst acc) → TabsN TT (upd H D (.lst ac2)) := fun {H acc ac2} t e q hq => by
    obtain ⟨ps, h1, h2, h3⟩ := t q hq
    refine ⟨ps, by rw [upd_ne (fun c => by rw [c, e] at h1; cases h1)]; exact h1, h2, fun pos cv hc => ?_⟩
    obtain ⟨c, e1, e2⟩ := h3 pos cv hc
    exact ⟨c, e1, by rw [upd_ne (fun z => by rw [z, e] at e2; cases e2)]; exact e2⟩
  have en : ∀ {H : Hp} {ac2 : List V}, ExtN H1 H → ExtN H1 (upd H D (.lst ac2)) := fun {H ac2} l a o e n => by
    rw [upd_ne (fun c => by rw [c, hD] at e; cases e)]
    exact l a o e n
  refine ⟨fun i m H => m = xs.length - i ∧ i ≤ xs.length ∧ ExtN H1 H ∧ TabsN TT H ∧ ∃ us, H D = some (.lst us) ∧ All2 (fun v s => Rel v s H) us ((R.take i).map comb), ⟨_, rfl, Nat.zero_le _, fun a o e _ => Le.new hD a o e, hT.ext (Le.new hD), [], upd_self, .nil⟩, ?_⟩
  rintro i m H ⟨rfl, hiX, le, tT, us, e, h2⟩
  by_cases hlt : i < xs.length
  · refine .inr ⟨w.goes i H hlt (hG H le), fun H' => ExtN H1 H' ∧ TabsN TT H' ∧ ∃ us, H' D = some (.lst us) ∧ All2 (fun v s => Rel v s H') us ((R.take (i + 1)).map comb), fun H' p => ⟨xs.length - (i + 1), by omega, rfl, hlt, p⟩, fun x H' y => ?_⟩
    obtain ⟨rfl, hx⟩ := hY i H x H' (w.yields i H x H' hlt (hG H le) y)
    have hr : R[i]? = some (R[i]'(by omega)) := List.getElem?_eq_getElem _
    obtain ⟨σx, w1, w2, w3⟩ := hg i x _ H' hx hr le ⟨_, e⟩ tT
    refine w2 _ ⟨w1, ?_⟩
    show te σx H' _
    refine w3 _ fun v H2 l2 t2 hv => ?_
    have e2 := l2 _ _ e fun ps z => by cases z
    have hul := h2.len
    rw [List.length_map, List.length_take] at hul
    refine ⟨us, e2, by omega, en (fun a o q n => l2 a o (le a o q n) n), tabs t2 e2, us ++ [v], upd_self, ?_⟩
    have lx : ∀ a o, a ≠ D → (∀ ps, o ≠ .tbl ps) → H2 a = some o → upd H2 D (.lst (us ++ [v])) a = some o := fun a o c _ q => by rw [upd_ne c]; exact q
    rw [take_snoc hr, List.map_append]
    exact (h2.imp fun v s q => mono v s _ _ lx ⟨_, e2⟩ (mono v s _ _ (fun a o _ n q => l2 a o q n) ⟨_, e⟩ q)).app (.cons (mono v _ _ _ lx ⟨_, e2⟩ hv) .nil)
  · have ei : i = xs.length := by omega
    subst ei
    rw [← hR, List.take_length] at h2
    exact .inl ⟨w.stops H (hG H le), hd H us le tT e h2⟩
end
end Od
end
section
set_option Elab.async false
set_option linter.all false
set_option maxRecDepth 100000
set_option maxHeartbeats 2000000
set_option autoImplicit false
/-! nested functions whose own names are captured by a block within them: cells of their own beside the captured ones -/
namespace Od
open PySem PySem.Spec PyProof.Rows L2 C8 Day NdefX LamX
theorem cellsFrom_acc : ∀ (names : List (Str × NameKind)) (n : Nat) (acc : List (Str × Addr)), cellsFrom n names acc = cellsFrom n names [] ++ acc
  | [], _, _ => rfl
  | (name, kind) :: r, n, acc => by
    unfold cellsFrom
    split
    · rw [cellsFrom_acc r (n + 1) ((name, n) :: acc), cellsFrom_acc r (n + 1) [(name, n)], List.append_assoc]
      rfl
    · exact cellsFrom_acc r n acc
theorem cellsFrom_kind : ∀ (names : List (Str × NameKind)) (n : Nat) (x : Str) (c : Addr), (x, c) ∈ cellsFrom n names [] → (x, NameKind.cell) ∈ names
  | [], _, _, _, h => (by cases h)
  | (name, kind) :: r, n, x, c, h => by
    unfold cellsFrom at h
    split at h
    · rename_i hk
      rw [cellsFrom_acc] at h
      rcases List.mem_append.mp h with h | h
      · exact List.mem_cons_of_mem _ (cellsFrom_kind r _ x c h)
      · have e : (x, c) = (name, n) := List.mem_singleton.mp h
        injection e with e1 _
        rw [e1, ← (by simpa using hk : kind = NameKind.cell)]
        exact List.mem_cons_self
    · exact List.mem_cons_of_mem _ (cellsFrom_kind r _ x c h)
theorem lookup_app {α : Type} : ∀ (l m : List (Str × α)) (x : Str), (l ++ m).lookup x = (l.lookup x).or (m.lookup x)
  | [], m, x => by simp
  | (k, v) :: l, m, x => by
    rw [List.cons_append, List.lookup_cons, List.lookup_cons, lookup_app l m x]
    split <;> simp
section
variable {M : Model} {A : Around} {E : Value → Shared → Prop} {s₀ s : Shared} {m cm : Str → Option Value} {env : Env} {nc : List (Str × Addr)}
theorem stLN {n : Str} {v : Value} {Q : Unit → Shared → Prop} (x : InCallC s₀ env.locals m nc cm s) (hk : env.scope.kind = .function) (hl : env.kindOf n = some .local)
    (h : ∀ s', InCallC s₀ env.locals (fun y => if y = n then some v else m y) nc cm s' → Q () s') : wpAny M A (storeName env n v) Q E s := by
  refine wpAny_storeName_local hl x.toInCall.ns (fun h' hn' hs' => h _ ⟨⟨?_, hn', fun b o e => ?_, x.toInCall.fresh⟩, fun k c hc => ?_, x.apart, x.above⟩) (by rw [hk]; rfl)
  · obtain ⟨h₁, tk, rfl⟩ := x.toInCall.same
    exact ⟨h', _, rfl⟩
  · exact hs'.extBut b o (Nat.ne_of_lt (Nat.lt_of_lt_of_le (Heap.lt_size e) x.toInCall.fresh)) (x.toInCall.keep b o e)
  · exact (x.cell k c hc).sameBut hs' (Nat.ne_of_gt (x.above k c (PySem.mem_of_lookup hc)))
theorem stCN {n : Str} {c : Addr} {v : Value} {Q : Unit → Shared → Prop} (x : InCallC s₀ env.locals m nc cm s) (hk : env.scope.kind = .function) (hl : env.kindOf n = some .cell)
    (hc : nc.lookup n = some c) (hce : env.cells.lookup n = some c)
    (h : ∀ s', InCallC s₀ env.locals m nc (fun y => if y = n then some v else cm y) s' → Q () s') : wpAny M A (storeName env n v) Q E s := by
  have hLc := x.above n c (PySem.mem_of_lookup hc)
  refine wpAny_storeName_cell hk hl hce (x.cell n c hc) fun h' hc' hs' => h _ ⟨⟨?_, x.toInCall.ns.sameBut hs' (Nat.ne_of_lt hLc), fun b o e => ?_, x.toInCall.fresh⟩, fun k c' hk' => ?_, x.apart, x.above⟩
  · obtain ⟨h₁, tk, rfl⟩ := x.toInCall.same
    exact ⟨h', _, rfl⟩
  · exact hs'.extBut b o (Nat.ne_of_lt (Nat.lt_trans (Nat.lt_of_lt_of_le (Heap.lt_size e) x.toInCall.fresh) hLc)) (x.toInCall.keep b o e)
  · by_cases hkn : k = n
    · subst hkn
      rw [hc] at hk'; cases hk'
      simpa using hc'
    · rw [if_neg hkn]
      exact (x.cell k c' hk').sameBut hs' fun e => hkn (name_of_addr x.apart (PySem.mem_of_lookup hk') (e ▸ PySem.mem_of_lookup hc))
theorem bindParamsN (f : Str × Value → PUnit → Sem (ForInStep PUnit)) (hf : ∀ n v u, f (n, v) u = (do storeName env n v; pure (.yield ⟨⟩))) (hk : env.scope.kind = .function) (hcs : ∀ n c, nc.lookup n = some c → env.cells.lookup n = some c) :
    ∀ (binds : List (Str × Value)) (m cm : Str → Option Value) (s : Shared) (Q : PUnit → Shared → Prop), InCallC s₀ env.locals m nc cm s →
      (∀ x ∈ binds, env.kindOf x.1 = some .local ∨ (env.kindOf x.1 = some .cell ∧ (nc.lookup x.1).isSome = true)) →
      (∀ s', InCallC s₀ env.locals (bindL env.kindOf binds m) nc (bindC env.kindOf binds cm) s' → Q ⟨⟩ s') → wpAny M A (forIn binds ⟨⟩ f) Q E s
  | [], m, cm, s, Q, x, _, h => by rw [List.forIn_nil]; exact wpAny_pure (h s x)
  | (n, v) :: r, m, cm, s, Q, x, hkind, h => by
    rw [List.forIn_cons, hf]
    have hr : ∀ y ∈ r, env.kindOf y.1 = some .local ∨ (env.kindOf y.1 = some .cell ∧ (nc.lookup y.1).isSome = true) := fun y hy => hkind y (List.mem_cons_of_mem _ hy)
    rcases hkind (n, v) List.mem_cons_self with hl | ⟨hl, hc⟩
    · refine wpAny_bind (wpAny_bind (stLN x hk hl fun s' x' => wpAny_pure (bindParamsN f hf hk hcs r _ _ s' Q x' hr fun s'' x'' => h s'' ?_)))
      unfold bindL bindC; rw [if_pos hl, if_pos hl]; exact x''
    · obtain ⟨c, hc⟩ := Option.isSome_iff_exists.mp hc
      have hnl : ¬ env.kindOf n = some .local := by rw [hl]; decide
      refine wpAny_bind (wpAny_bind (stCN x hk hl hc (hcs n c hc) fun s' x' => wpAny_pure (bindParamsN f hf hk hcs r _ _ s' Q x' hr fun s'' x'' => h s'' ?_)))
      unfold bindL bindC; rw [if_neg hnl, if_neg hnl]; exact x''
end
section
variable {M : Model} {A : Around} {E : Value → Shared → Prop} {s : Shared}
theorem newEnvN {scope : Scope} {globals : Addr} {cl : List (Str × Addr)} {binds : List (Str × Value)} {qual : Str} {func : Option Addr} {code : Value} {builtins : Addr} {Q : Env → Shared → Prop}
    (hk : scope.kind = .function)
    (hkind : ∀ x ∈ binds, scope.names.lookup x.1 = some .local ∨ (scope.names.lookup x.1 = some .cell ∧ ((cellsFrom (s.heap.objs.size + 1) scope.names []).lookup x.1).isSome = true))
    (hQ : ∀ env, env = newEnv scope s.heap.objs.size globals (cellsFrom (s.heap.objs.size + 1) scope.names [] ++ cl) qual func code none builtins →
      ∀ s', InCallC s env.locals (bindL env.kindOf binds fun _ => none) (cellsFrom (s.heap.objs.size + 1) scope.names []) (bindC env.kindOf binds fun _ => none) s' → Q env s') :
    wpAny M A (newFunctionEnv scope globals cl binds qual func code none builtins) Q E s := by
  simp only [newFunctionEnv, Option.isSome_none, Bool.false_eq_true, if_false]
  refine wpAny_bind (wpAny_alloc ?_)
  refine wpAny_bind (wpAny_layCells _ (fun name kind cells => by cases hkc : kind == NameKind.cell <;> simp [hkc]) _ _ _ _ ?_)
  have ok := cellsFrom_ok scope.names (s.heap.push { cls := .type "frame", data := .dict #[] }) (s.heap.objs.size + 1) [] ⟨fun _ _ hm => (nomatch hm), List.Pairwise.nil⟩ (by rw [Heap.size_push]; exact Nat.le_refl _)
  rw [Heap.size_push] at ok
  rw [show ({ s with heap := s.heap.push { cls := .type "frame", data := .dict #[] } } : Shared).heap.objs.size = s.heap.objs.size + 1 from Heap.size_push .., cellsFrom_acc]
  refine wpAny_bind (bindParamsN (s₀ := s) (nc := cellsFrom (s.heap.objs.size + 1) scope.names []) (env := newEnv scope s.heap.objs.size globals (cellsFrom (s.heap.objs.size + 1) scope.names [] ++ cl) qual func code none builtins)
    _ (fun _ _ _ => rfl) hk (fun n c h => ?_) binds (fun _ => none) (fun _ => none) _ _
    ⟨⟨⟨_, _, rfl⟩, (Heap.Ns.new s.heap (.type "frame")).keeps (pushCells_keeps _ _), fun b o e => pushCells_keeps _ _ b o (Heap.get?_push_of_some _ e), Nat.le_refl _⟩,
      fun n c hc => (ok.empty n c (PySem.mem_of_lookup hc)).1, ok.apart, fun n c hm => (ok.empty n c hm).2⟩
    hkind fun s' x => wpAny_pure (hQ _ rfl s' x))
  show (cellsFrom (s.heap.objs.size + 1) scope.names [] ++ cl).lookup n = some c
  rw [lookup_app, h]
  rfl
end
/-- its names: the parameters (some of them captured by a block), then the captured ones, then its locals -/
structure NScopeC (N ps fr : List Str) (sc : Scope) : Prop where
  kind : sc.kind = .function
  co : sc.isCoroutine = false
  gen : sc.isGenerator = false
  nd : N.Nodup
  pre : N.take (ps.length + fr.length) = ps ++ fr
  par : ∀ x ∈ ps, sc.names.lookup x = some .local ∨ sc.names.lookup x = some .cell
  cf : ∀ y ∈ sc.names, y.2 = .cell → y.1 ∉ fr
  free : ∀ y ∈ sc.names, y.2 = .free → y.1 ∈ fr
  frk : ∀ x ∈ fr, sc.names.lookup x = some .free
def nscCB (N ps fr : List Str) (sc : Scope) : Bool :=
  decide (sc.kind = .function) && !sc.isCoroutine && !sc.isGenerator && decide N.Nodup && decide (N.take (ps.length + fr.length) = ps ++ fr) && ps.all (fun x => decide (sc.names.lookup x = some .local) || decide (sc.names.lookup x = some .cell)) && sc.names.all (fun y => !decide (y.2 = .cell) || !decide (y.1 ∈ fr)) && sc.names.all (fun y => !decide (y.2 = .free) || decide (y.1 ∈ fr)) && fr.all (fun x => decide (sc.names.lookup x = some .free))
theorem nscopeC_by {N ps fr : List Str} {sc : Scope} (h : nscCB N ps fr sc = true) : NScopeC N ps fr sc := by
  unfold nscCB at h
  simp only [Bool.and_eq_true, Bool.not_eq_true', decide_eq_true_eq, List.all_eq_true, Bool.or_eq_true, decide_eq_false_iff_not] at h
  obtain ⟨⟨⟨⟨⟨⟨⟨⟨h1, h2⟩, h3⟩, h4⟩, h5⟩, h6⟩, h7⟩, h8⟩, h9⟩ := h
  exact ⟨h1, h2, h3, h4, h5, h6, fun y hy e => (h7 y hy).elim (fun z => absurd e z) id, fun y hy e => (h8 y hy).elim (fun z => absurd e z) id, h9⟩
abbrev envC (F : NF) (f L : Addr) : Env := PySem.W.envX F.qual F.scope L f (.ref F.c) (cellsFrom (L + 1) F.scope.names [] ++ F.cl)
def ncxC (CX : CXT) (P : Program) (w : World) (K : PySem.W.Frag) (mg : Str → Option Value) (base : Heap) (N : List Str) (F : NF) (f : Addr) (A : Around) (outer : List Env) (s : Shared) (H : Hp) (E : XK) : Cx where
  prog := P
  w := w
  K := K
  mg := mg
  base := base
  A := A.deeper (envC F f s.heap.objs.size)
  N := N
  s_0 := s
  H_0 := H
  env := envC F f s.heap.objs.size
  outer := outer
  stack := envC F f s.heap.objs.size :: outer
  ex := []
  calm := true
  fn := fun _ => false
  pn := []
  xe := fun e s' => wpAny (model P w) (A.deeper (envC F f s.heap.objs.size)) (leaving (envC F f s.heap.objs.size) e) (fun _ s'' => CX outer H s E e s'') (fun e' s'' => CX outer H s E e' s'') s'
section
variable {CX : CXT} {P : Program} {w : World} {K : PySem.W.Frag} {mg : Str → Option Value} {base : Heap} {N ps fr : List Str} {F : NF} {f : Addr} {A : Around} {outer : List Env} {s s1 : Shared} {H : Hp} {E : XK} {us : List Value} {vs : List V} {ws : List (Option V)}
theorem inv_startC (S : NScopeC N ps fr F.scope) (hd : A.handled = none) (e0 : Env0 P w K mg base A outer s H) (hl : vs.length = ps.length) (r : Vals vs us) (C : CellsAt F.cl fr ws s.heap H)
    (x : InCallC s s.heap.objs.size (bindL (envC F f s.heap.objs.size).kindOf (ps.zip us) fun _ => none) (cellsFrom (s.heap.objs.size + 1) F.scope.names []) (bindC (envC F f s.heap.objs.size).kindOf (ps.zip us) fun _ => none) s1) :
    Inv (ncxC CX P w K mg base N F f A outer s H E) [] (startF N vs ws) H s1 := by
  have hpl : ps.length + fr.length ≤ N.length := by
    have q := congrArg List.length S.pre
    rw [List.length_take, List.length_append] at q
    omega
  have ndP : ps.Nodup := by
    have q := S.nd.sublist (List.take_sublist (ps.length + fr.length) N)
    rw [S.pre] at q
    exact (List.nodup_append.mp q).1
  have noA : ∀ b : Addr, b ∉ (ncxC CX P w K mg base N F f A outer s H E).ex := fun b z => absurd (show b ∈ ([] : List Addr) from z) (by simp)
  obtain ⟨h1, tk, rfl, hk⟩ := x.done
  have cellK : ∀ {c : Addr} {v : Option Value}, s.heap.IsCell c v → h1.IsCell c v := fun {c v} ⟨o, ho, hd⟩ => ⟨o, hk _ _ ho, hd⟩
  -- a cell: a new one, or a captured one
  have two : ∀ y c, (ncxC CX P w K mg base N F f A outer s H E).env.cells.lookup y = some c → (cellsFrom (s.heap.objs.size + 1) F.scope.names []).lookup y = some c ∨ F.cl.lookup y = some c := fun y c h => by
    have h : (cellsFrom (s.heap.objs.size + 1) F.scope.names [] ++ F.cl).lookup y = some c := h
    rw [lookup_app] at h
    cases e : (cellsFrom (s.heap.objs.size + 1) F.scope.names []).lookup y with
    | some c' => rw [e] at h; exact .inl h
    | none => rw [e] at h; exact .inr h
  have newC : ∀ y c, (cellsFrom (s.heap.objs.size + 1) F.scope.names []).lookup y = some c → (ncxC CX P w K mg base N F f A outer s H E).env.cells.lookup y = some c := fun y c h => by
    show (cellsFrom (s.heap.objs.size + 1) F.scope.names [] ++ F.cl).lookup y = some c
    rw [lookup_app, h]
    rfl
  have oldC : ∀ y c, y ∈ fr → F.cl.lookup y = some c → (ncxC CX P w K mg base N F f A outer s H E).env.cells.lookup y = some c := fun y c hy h => by
    show (cellsFrom (s.heap.objs.size + 1) F.scope.names [] ++ F.cl).lookup y = some c
    rw [lookup_app]
    cases e : (cellsFrom (s.heap.objs.size + 1) F.scope.names []).lookup y with
    | some c' => exact absurd hy (S.cf _ (cellsFrom_kind _ _ y c' (PySem.mem_of_lookup e)) rfl)
    | none => exact h
  have lo : ∀ y c, (cellsFrom (s.heap.objs.size + 1) F.scope.names []).lookup y = some c → s.heap.objs.size < c := fun y c h => x.above y c (PySem.mem_of_lookup h)
  have hi : ∀ y c, F.cl.lookup y = some c → c < s.heap.objs.size := fun y c h => by
    obtain ⟨v, z⟩ := (C.all y c h).2
    exact z.lt
  refine ⟨⟨e0.mod, S.kind, rfl, rfl, Nat.le_refl _, fun y z c h1 h2 => ?_, fun y hy => ?_, fun y c z _ => ?_, fun _ => hd, Around.frames_deeper e0.frames, .inr ⟨rfl, rfl⟩, fun b z => absurd z (noA b), e0.bs, e0.bsz, fun b _ _ => noA b, fun b z => absurd z (noA b), e0.funs, e0.frf⟩,
    rfl, e0.bare, Un.kept hk, ⟨_, x.toInCall.ns, fun i y v h1 h2 h3 => ?_⟩, fun y c h => ?_, e0.hok.fresh (Nat.le_refl _), fun y c h => ?_, fun p hp => absurd (show p ∈ ([] : List (Addr × Obj)) ++ [] from hp) (by simp), e0.hok.kept hk, ?_⟩
  · rcases two y c h1 with a | a <;> rcases two z c h2 with b | b
    · exact name_of_addr x.apart (PySem.mem_of_lookup a) (PySem.mem_of_lookup b)
    · exact absurd (Nat.lt_trans (lo y c a) (hi z c b)) (Nat.lt_irrefl _)
    · exact absurd (Nat.lt_trans (lo z c b) (hi y c a)) (Nat.lt_irrefl _)
    · exact C.inj y z c a b
  · have hy : F.scope.names.lookup y = some .cell ∨ F.scope.names.lookup y = some .free := hy
    rcases hy with hy | hy
    · obtain ⟨c, hc⟩ := cell_has (n := s.heap.objs.size + 1) hy
      exact ⟨c, newC y c hc⟩
    · have hyf := S.free _ (PySem.mem_of_lookup hy) rfl
      obtain ⟨i, hi⟩ := List.mem_iff_getElem?.mp hyf
      obtain ⟨c, hc, _⟩ := C.has i y hi
      exact ⟨c, oldC y c hyf hc⟩
  · have z : false = true := z
    cases z
  · have e1 : N[i]? = some y := h1
    have clen := C.len
    unfold startF at h2
    by_cases hi1 : i < ps.length
    · have hq : (ps ++ fr)[i]? = some y := by
        rw [← S.pre, List.getElem?_take_of_lt (by omega)]
        exact e1
      rw [List.getElem?_append_left hi1] at hq
      rw [List.getElem?_append_left (by rw [List.length_map]; omega), List.getElem?_map] at h2
      have ha : vs[i]? = some v := by
        cases e : vs[i]? with
        | none => rw [e] at h2; cases h2
        | some a => rw [e] at h2; cases h2; rfl
      obtain ⟨u, hu, rv⟩ := r.get ha
      refine ⟨u, rv, ?_⟩
      rcases S.par y (List.mem_of_getElem? hq) with k | k
      · exact .inl ⟨k, bindL_get ndP hq hu k⟩
      · obtain ⟨c, e⟩ := cell_has (n := s.heap.objs.size + 1) k
        refine .inr ⟨.inl k, c, newC y c e, ?_⟩
        have q := x.cell y c e
        rw [bindC_get ndP hq hu (by show F.scope.names.lookup y ≠ _; rw [k]; decide)] at q
        exact q
    · rw [List.getElem?_append_right (by rw [List.length_map]; omega), List.length_map] at h2
      by_cases hi2 : i < ps.length + fr.length
      · have hq : (ps ++ fr)[i]? = some y := by
          rw [← S.pre, List.getElem?_take_of_lt (by omega)]
          exact e1
        rw [List.getElem?_append_right (by omega)] at hq
        rw [List.getElem?_append_left (by omega), hl] at h2
        obtain ⟨c, hc, hv⟩ := C.has (i - ps.length) y hq
        obtain ⟨u, ru, hu⟩ := hv v h2
        have hyf := List.mem_of_getElem? hq
        exact ⟨u, ru, .inr ⟨.inr (S.frk y hyf), c, oldC y c hyf hc, cellK hu⟩⟩
      · rw [List.getElem?_append_right (by omega), List.getElem?_replicate] at h2
        split at h2 <;> cases h2
  · rcases two y c h with a | a
    · exact ⟨_, x.cell y c a⟩
    · obtain ⟨v, z⟩ := (C.all y c a).2
      exact ⟨v, cellK z⟩
  · rcases two y c h with a | a
    · exact e0.hok.fresh (Nat.le_of_lt (lo y c a))
    · exact (C.all y c a).1
  · have clen := C.len
    unfold startF
    show _ = N.length
    rw [List.length_append, List.length_append, List.length_map, List.length_replicate]
    omega
end
section
variable {CX : CXT} {P : Program} {w : World} {K : PySem.W.Frag} {mg : Str → Option Value} {base : Heap} {N ps fr : List Str} {F : NF} {f : Addr} {k j : Nat} {sp sp' : List (Option V) → Sp}
/-- THE RULE: such a nested def by its body -/
theorem nokC_of (S : NScopeC N ps fr F.scope) (hb : ∀ (doc pm ctv : Value) (us : List Value), us.length = ps.length → bindArgs (F.fd doc pm ctv) ⟨us, []⟩ = pure (ps.zip us)) (len : ∀ ws vs H Q E, sp ws vs H Q E → vs.length = ps.length)
    (hbody : ∀ (A : Around) (outer : List Env) (s : Shared) (H : Hp) (vs : List V) (ws : List (Option V)) (Q : VK) (E : XK), Room k (A.deeper (envC F f s.heap.objs.size)) → H f = some (FnO f F) → H F.c = some (CodeO F.c F.qual) → ws.length = fr.length → sp ws vs H Q E →
      ∃ t, PSs (ncxC CX P w K mg base N F f A outer s H E) F.body t ∧ t { nx := fun _ H' => Q .non H', rt := Q } (startF N vs ws) H) :
    NOk P w K mg base CX (k + 1) f F ps fr sp := by
  refine ⟨len, fun A outer s H us vs ws Q E hr e0 hf hc C r hsp => ?_⟩
  have hl := len _ _ _ _ _ hsp
  have lim : s.heap.NoLimit := e0.mod.nolimit.keeps fun b o e => (e0.bs b o e).1
  obtain ⟨od, sl, doc, pm, ctv, ho⟩ := fnO_at e0.hok hf
  refine codeAny_call_function hr.depth ho rfl S.co S.gen rfl (codeO_at e0.hok hc) ?_
  rw [hb doc pm ctv us (by rw [← r.length]; exact hl)]
  have hkind : ∀ y ∈ ps.zip us, F.scope.names.lookup y.1 = some .local ∨ (F.scope.names.lookup y.1 = some .cell ∧ ((cellsFrom (s.heap.objs.size + 1) F.scope.names []).lookup y.1).isSome = true) := fun ⟨n, v⟩ hy => by
    rcases S.par n (List.of_mem_zip hy).1 with q | q
    · exact .inl q
    · exact .inr ⟨q, PySem.W.cellsFrom_some _ _ _ (.inl q)⟩
  refine wpAny_pure (newEnvN S.kind hkind fun env he s1 x => ?_)
  subst he
  refine ⟨lim.keeps x.toInCall.keep, ?_⟩
  show codeAny _ _ (.func F.body (envC F f s.heap.objs.size)) _ _
  refine codeAny_func ?_
  obtain ⟨t, ht, hq⟩ := hbody A outer s H vs ws Q E (hr.deeper _) hf hc C.len hsp
  have I : Inv (ncxC CX P w K mg base N F f A outer s H E) [] (startF N vs ws) H s1 := inv_startC S hr.hd e0 hl r C x
  refine wpAny_mono (ht.run [] _ (startF N vs ws) H _ I hq) (fun fl s' hs => ?_) fun e s' hs => hs
  have fin : ∀ {σ' : L2.St} {H' : Hp} {v : V} {u : Value}, Inv (ncxC CX P w K mg base N F f A outer s H E) [] σ' H' s' → L2.RelV v u → Q v H' → CE outer P w H s Q u s' :=
    fun {σ' H' v u} J rv q => ⟨v, H', J.os, J.bare, J.base, J.hok, rv, q⟩
  cases fl with
  | ret u =>
    obtain ⟨v, σ', H', J, rv, q⟩ := hs
    exact fin J rv q
  | next =>
    obtain ⟨σ', H', J, q⟩ := hs
    exact fin (v := V.non) (u := Value.none) J rfl q
  | brk =>
    obtain ⟨_, _, _, q⟩ := hs
    exact False.elim q
  | cont =>
    obtain ⟨_, _, _, q⟩ := hs
    exact False.elim q
end
end Od
end
section
set_option Elab.async false
set_option linter.all false
set_option maxRecDepth 100000
set_option maxHeartbeats 2000000
set_option autoImplicit false
/-! the function that tells the pairs of a tree -/
namespace Od
open PySem PySem.Spec PyProof.Rows L2 C8 Day NdefX LamX
abbrev s__law_chart_has : Stmt := top 37
abbrev N__law_chart_has : List Str := ["_law_tree", "_law_days_here", "_law_ages", "_law_parts", "_law_part", "_law_has_pair", "_law_told"]
abbrev P__law_chart_has : List Str := ["_law_tree"]
theorem sc__law_chart_has : FnScope N__law_chart_has P__law_chart_has (C8.fnScope s__law_chart_has) := fnScope_by (by decide +kernel)
abbrev s__law_chart_has_lambda0 : Expr := (retE (stAt (ifB (stAt (C8.fnBody s__law_chart_has) 0)) 1))
abbrev N__law_chart_has_lambda0 : List Str := ["_law_day", "_law_age", "_law_days_here", "_law_ages"]
abbrev P__law_chart_has_lambda0 : List Str := ["_law_day", "_law_age"]
abbrev FR__law_chart_has_lambda0 : List Str := ["_law_days_here", "_law_ages"]
theorem sc__law_chart_has_lambda0 : NdefX.NScope N__law_chart_has_lambda0 P__law_chart_has_lambda0 FR__law_chart_has_lambda0 (lamC s__law_chart_has_lambda0) := NdefX.nscope_by (by decide +kernel)
theorem nb__law_chart_has_lambda0 : NdefX.ndefB (C8.fnScope s__law_chart_has) (lamC s__law_chart_has_lambda0) FR__law_chart_has_lambda0 = true := by decide +kernel
abbrev s__law_chart_has_lambda1 : Expr := (retE (stAt (ifB (stAt (C8.fnBody s__law_chart_has) 1)) 0))
abbrev N__law_chart_has_lambda1 : List Str := ["_law_day", "_law_age", "_law_tree"]
abbrev P__law_chart_has_lambda1 : List Str := ["_law_day", "_law_age"]
abbrev FR__law_chart_has_lambda1 : List Str := ["_law_tree"]
theorem sc__law_chart_has_lambda1 : NdefX.NScope N__law_chart_has_lambda1 P__law_chart_has_lambda1 FR__law_chart_has_lambda1 (lamC s__law_chart_has_lambda1) := NdefX.nscope_by (by decide +kernel)
theorem nb__law_chart_has_lambda1 : NdefX.ndefB (C8.fnScope s__law_chart_has) (lamC s__law_chart_has_lambda1) FR__law_chart_has_lambda1 = true := by decide +kernel
abbrev s__law_has_pair : Stmt := inDef s__law_chart_has 3
abbrev N__law_has_pair : List Str := ["_law_day", "_law_age", "_law_tree", "_law_parts", "_law_told", "_law_part"]
abbrev P__law_has_pair : List Str := ["_law_day", "_law_age"]
abbrev FR__law_has_pair : List Str := ["_law_tree", "_law_parts"]
theorem sc__law_has_pair : NScopeC N__law_has_pair P__law_has_pair FR__law_has_pair (C8.fnScope s__law_has_pair) := nscopeC_by (by decide +kernel)
theorem nb__law_has_pair : NdefX.ndefB (C8.fnScope s__law_chart_has) (C8.fnScope s__law_has_pair) FR__law_has_pair = true := by decide +kernel
def nmH : Nat → Nat → Str := fun l _ => if l = 452 then "_law_chart_has.<locals>._law_has_pair" else "_law_chart_has.<locals>.<lambda>"
section
variable {P : Program} {w : World} {K : PySem.W.Frag} {mg : Str → Option Value} {base : Heap}
/-- what a node of one or two parts is -/
def Node (ct : CT) (z : Str) (cs : List CT) : Prop := (∃ c, ct = .inv c ∧ z = "~" ∧ cs = [c]) ∨ ∃ o c e, o < 4 ∧ ct = .bin o c e ∧ z = opS o ∧ cs = [c, e]
theorem n_pair (T : Txt K mg) {k : Nat} {t D p c : Addr} {q : Str} {cl : List (Str × Addr)} {S0 : List Addr} {H0 : Hp} {ct : CT} {us : List V} {z : Str} {rest : List V} {cs : List CT} (hct : Node ct z cs) (htS : t ∈ S0) (hDS : D ∈ S0) (hSo : ∀ a ∈ S0, ∃ o, H0 a = some o) (ht : H0 t = some (.tup (.str z :: rest))) (hD : H0 D = some (.lst us))
    (hall : ∀ H1 : Hp, (∀ a ∈ S0, H1 a = H0 a) → All2 (fun v c => ∃ p, v = .ref p ∧ ClAt P w K mg base k H1 p (gP (CT.g c))) us cs) :
    NOk P w K mg base C8.CX0 (k + 1) p (NF.of s__law_has_pair "_law_has_pair" q cl c) P__law_has_pair FR__law_has_pair (spCG [some (.ref t), some (.ref D)] S0 H0 (gP ct.g)) := by
  refine nokC_of sc__law_has_pair (fun doc pm ctv us hl => match us, hl with | [_, _], _ => rfl) (fun ws vs H Q E h => ?_) (fun A outer s H vs ws Q E hr hf hc hl h => ?_)
  · obtain ⟨_, _, _, h, _⟩ := h
    obtain ⟨d, n, rfl, _⟩ := gP_some h
    rfl
  obtain ⟨rfl, hS, r, hg, qq⟩ := h
  obtain ⟨d, n, rfl, rfl⟩ := gP_some hg
  have nd := sc__law_has_pair.nd
  have ht1 := (hS t htS).trans ht
  have hD1 := (hS D hDS).trans hD
  have hlen := (hall H hS).len
  have hl2 : cs.length ≤ 2 := by
    rcases hct with ⟨_, _, _, rfl⟩ | ⟨_, _, _, _, _, _, rfl⟩ <;> simp
  refine ⟨_, (pss_cons (ps_setLc (i := 4) (own := [("_law_part", 5)]) (g := gName 5) (by rfl) nd rfl rfl (sw_true rfl rfl rfl (by decide +kernel)) (pi_list (pv 3)) (blkOk_by (own := [("_law_part", 5)]) (N := N__law_has_pair) (sc := C8.fnScope s__law_has_pair) (by decide +kernel)) (fun _ _ _ _ _ => pg_name (i := 5) nd rfl (Or.inl rfl)) (fun _ _ _ _ _ => pts_nil) (fun _ _ _ _ _ => (pe_cloK (P := P) (w := w) (K := K) (mg := mg) (base := base) (i := 5) (k := k) ⟨rfl, rfl, rfl, rfl, rfl⟩ (hr.mono (by first | decide | exact Nat.le_refl _ | omega)) (by rfl) (by first | exact Or.inl rfl | exact Or.inr (Or.inl rfl) | exact Or.inr (Or.inr rfl)) (pa_cons (pv 0) (pa_cons (pv 1) pa_nil)))))
      (pss_cons (ps_if (pt_cmpR op_eq (pe_ix ix_tup (pv 2) pe_int (fun _ _ => rfl)) pe_str (nomark _)) (pss_one (ps_ret (pe_not (pe_ix ix_list (pv 4) pe_int (fun _ _ => rfl))))) pss_nil)
      (pss_cons (ps_if (PW.pt (pw_or (pt_cmpR op_eq (pe_ix ix_tup (pv 2) pe_int (fun _ _ => rfl)) pe_str (nomark _)) (pw_or1 (pt_cmpR op_eq (pe_ix ix_tup (pv 2) pe_int (fun _ _ => rfl)) pe_str (nomark _))))) (pss_one (ps_ret (pe_ifExp (pt_cmpR op_eq (pe_ix ix_tup (pv 2) pe_int (fun _ _ => rfl)) pe_str (nomark _)) (pe_or (pe_ix ix_list (pv 4) pe_int (fun _ _ => rfl)) (pe_one (pe_ix ix_list (pv 4) pe_int (fun _ _ => rfl)))) (pe_and (pe_ix ix_list (pv 4) pe_int (fun _ _ => rfl)) (pe_one (pe_ix ix_list (pv 4) pe_int (fun _ _ => rfl))))))) pss_nil)
      (pss_one (ps_ret (pe_ifExp (pt_cmpR op_eq (pe_ix ix_tup (pv 2) pe_int (fun _ _ => rfl)) pe_str (nomark _)) (pe_and (pe_ix ix_list (pv 4) pe_int (fun _ _ => rfl)) (pe_one (pe_not (pe_ix ix_list (pv 4) pe_int (fun _ _ => rfl))))) (pe_cmpR op_ne (pe_ix ix_list (pv 4) pe_int (fun _ _ => rfl)) (pe_ix ix_list (pv 4) pe_int (fun _ _ => rfl)) (nomark _)))))))), ?_⟩
  refine ⟨_, rfl, D, rfl, ⟨_, .of hD1⟩, fun D2 nD2 => ?_⟩
  refine lc_here (xs := us) walk_list gives_at nD2 (fun _ le => .of (le _ _ hD1)) cs hlen.symm (le_szl _ (by omega)) (fun c => V.bl (c.g d n)) ?_ ?_
  · intro i x c' acc hx hc'
    obtain ⟨c2, hc2, pp, rfl, Kc⟩ := (hall (upd H D2 (.lst acc)) fun a ha => by
      obtain ⟨o, ho⟩ := hSo a ha
      rw [upd_ne (fun e => by rw [← hS a ha, e, nD2] at ho; cases ho)]
      exact hS a ha).get hx
    obtain rfl : c2 = c' := by rw [hc'] at hc2; exact (Option.some.inj hc2).symm
    refine ⟨_, ?_, fun K2 hK => hK, fun N hN => ⟨pp, gP c2.g, rfl, Kc, _, rfl, _, rfl, Kc, _, rfl, hN⟩⟩
    rfl
  have l2 : Le H (upd H D2 (.lst (cs.map fun c => V.bl (c.g d n)))) := Le.new nD2
  have qq := qq _ (GrowL.new (xs := cs.map fun c => V.bl (c.g d n)) nD2)
  have ht2 := l2 _ _ ht1
  have e2 : upd H D2 (.lst (cs.map fun c => V.bl (c.g d n))) D2 = some (.lst (cs.map fun c => V.bl (c.g d n))) := upd_self
  generalize upd H D2 (.lst (cs.map fun c => V.bl (c.g d n))) = H2 at l2 qq ht2 e2 ⊢
  refine ⟨_, rfl, _, _, _, .str z, rfl, rfl, .of ht2, atI_nat (j := 0) rfl, rfl, _, rfl, ?_⟩
  rcases hct with ⟨c0, rfl, rfl, rfl⟩ | ⟨o, c0, e0, ho, rfl, rfl, rfl⟩
  · refine ite2 (fun _ => ?_) (fun c => absurd (by decide +kernel) c)
    exact ⟨_, rfl, _, _, _, .bl (c0.g d n), rfl, rfl, .of e2, atI_nat (j := 0) rfl, _, rfl, qq⟩
  · rw [opS_inv]
    refine ite2 (fun c => absurd c (by decide)) (fun _ => ?_)
    obtain rfl | rfl | rfl | rfl : o = 0 ∨ o = 1 ∨ o = 2 ∨ o = 3 := by omega
    · refine ⟨_, rfl, _, _, _, .str (opS 0), rfl, rfl, .of ht2, atI_nat (j := 0) rfl, rfl, _, rfl, ?_⟩
      refine ite2 (fun _ => ?_) (fun c => absurd (by decide +kernel) c)
      refine ⟨_, rfl, _, _, _, .str (opS 0), rfl, rfl, .of ht2, atI_nat (j := 0) rfl, rfl, _, rfl, ?_⟩
      refine ite2 (fun _ => ?_) (fun c => absurd (by decide +kernel) c)
      refine ⟨_, rfl, _, _, _, .bl (c0.g d n), rfl, rfl, .of e2, atI_nat (j := 0) rfl, _, rfl, ?_⟩
      have qq : Q (.bl (c0.g d n || e0.g d n)) H2 := qq
      cases hf0 : c0.g d n with
      | true => rw [hf0] at qq; exact qq
      | false => rw [hf0] at qq; exact ⟨_, rfl, _, _, _, .bl (e0.g d n), rfl, rfl, .of e2, atI_nat (j := 1) rfl, qq⟩
    · refine ⟨_, rfl, _, _, _, .str (opS 1), rfl, rfl, .of ht2, atI_nat (j := 0) rfl, rfl, _, rfl, ?_⟩
      refine ite2 (fun c => absurd c (by decide +kernel)) (fun _ => ?_)
      refine ⟨_, rfl, _, _, _, .str (opS 1), rfl, rfl, .of ht2, atI_nat (j := 0) rfl, rfl, _, rfl, ?_⟩
      refine ite2 (fun _ => ?_) (fun c => absurd (by decide +kernel) c)
      refine ⟨_, rfl, _, _, _, .str (opS 1), rfl, rfl, .of ht2, atI_nat (j := 0) rfl, rfl, _, rfl, ?_⟩
      refine ite2 (fun c => absurd c (by decide +kernel)) (fun _ => ?_)
      refine ⟨_, rfl, _, _, _, .bl (c0.g d n), rfl, rfl, .of e2, atI_nat (j := 0) rfl, _, rfl, ?_⟩
      have qq : Q (.bl (c0.g d n && e0.g d n)) H2 := qq
      cases hf0 : c0.g d n with
      | false => rw [hf0] at qq; exact qq
      | true => rw [hf0] at qq; exact ⟨_, rfl, _, _, _, .bl (e0.g d n), rfl, rfl, .of e2, atI_nat (j := 1) rfl, qq⟩
    · refine ⟨_, rfl, _, _, _, .str (opS 2), rfl, rfl, .of ht2, atI_nat (j := 0) rfl, rfl, _, rfl, ?_⟩
      refine ite2 (fun c => absurd c (by decide +kernel)) (fun _ => ?_)
      refine ⟨_, rfl, _, _, _, .str (opS 2), rfl, rfl, .of ht2, atI_nat (j := 0) rfl, rfl, _, rfl, ?_⟩
      refine ite2 (fun c => absurd c (by decide +kernel)) (fun _ => ?_)
      refine ⟨_, rfl, _, _, _, .str (opS 2), rfl, rfl, .of ht2, atI_nat (j := 0) rfl, rfl, _, rfl, ?_⟩
      refine ite2 (fun _ => ?_) (fun c => absurd (by decide +kernel) c)
      refine ⟨_, rfl, _, _, _, .bl (c0.g d n), rfl, rfl, .of e2, atI_nat (j := 0) rfl, _, rfl, ?_⟩
      have qq : Q (.bl (c0.g d n && !e0.g d n)) H2 := qq
      cases hf0 : c0.g d n with
      | false => rw [hf0] at qq; exact qq
      | true => rw [hf0] at qq; exact ⟨_, rfl, _, _, _, .bl (e0.g d n), rfl, rfl, .of e2, atI_nat (j := 1) rfl, _, rfl, qq⟩
    · refine ⟨_, rfl, _, _, _, .str (opS 3), rfl, rfl, .of ht2, atI_nat (j := 0) rfl, rfl, _, rfl, ?_⟩
      refine ite2 (fun c => absurd c (by decide +kernel)) (fun _ => ?_)
      refine ⟨_, rfl, _, _, _, .str (opS 3), rfl, rfl, .of ht2, atI_nat (j := 0) rfl, rfl, _, rfl, ?_⟩
      refine ite2 (fun c => absurd c (by decide +kernel)) (fun _ => ?_)
      refine ⟨_, rfl, _, _, _, .str (opS 3), rfl, rfl, .of ht2, atI_nat (j := 0) rfl, rfl, _, rfl, ?_⟩
      refine ite2 (fun c => absurd c (by decide +kernel)) (fun _ => ?_)
      have qq : Q (.bl (c0.g d n != e0.g d n)) H2 := qq
      refine ⟨_, rfl, _, _, _, .bl (c0.g d n), rfl, rfl, .of e2, atI_nat (j := 0) rfl, _, rfl, _, _, _, .bl (e0.g d n), rfl, rfl, .of e2, atI_nat (j := 1) rfl, rfl, ?_⟩
      have eb : (!decide (V.bl (c0.g d n) = V.bl (e0.g d n))) = (c0.g d n != e0.g d n) := by
        cases c0.g d n <;> cases e0.g d n <;> decide
      show Q (V.bl (!decide (V.bl (c0.g d n) = V.bl (e0.g d n)))) H2
      rw [eb]
      exact qq
def sp_chasU (P : Program) (w : World) (K : PySem.W.Frag) (mg : Str → Option Value) (base : Heap) (TT : List NTab) (M : Nat) : Sp := fun vs H Q _ => ∃ (v : V) (c : CT), vs = [v] ∧ TreeAt H v c ∧ c.ok ∧ c.dep ≤ M ∧ TabsN TT H ∧
  ∀ p H', ExtN H H' → TabsN TT H' → ClN P w K mg base (2 + M) H H' p (gP c.g) → Q (.ref p) H'
def sp_chasP (P : Program) (w : World) (K : PySem.W.Frag) (mg : Str → Option Value) (base : Heap) (TT : List NTab) : Nat → Sp
  | 0 => fun _ _ _ _ => False
  | M + 1 => sp_chasU P w K mg base TT M
theorem c_chas0 {TT : List NTab} (F : DefOf K mg "_law_chart_has" s__law_chart_has P__law_chart_has) (k : Nat) : Cal P w K mg base (k + 1) "_law_chart_has" (sp_chasP P w K mg base TT 0) [] := by
  obtain ⟨f, fd, F, B⟩ := F
  exact cal0 F B .nil sc__law_chart_has (fun vs H Q E h => h.elim) (fun cdv A outer s H vs Q E hr h => h.elim)
theorem c_chasS {TT : List NTab} (M : Nat) (T : Txt K mg) (F : DefOf K mg "_law_chart_has" s__law_chart_has P__law_chart_has) (KB : K.In base) (GB : base.Ns mainGlobals mg) {c PT : Addr} (ht : PySem.W.tabIn K "_law_chart_has" = some (c, PT)) (TB : TabB base mg c PT) (hm : (PT, nmH) ∈ TT) (hu : ∀ p ∈ TT, p.1 = PT → p.2 = nmH)
    (C__law_chart_has : Cal P w K mg base (3 + M) "_law_chart_has" (sp_chasP P w K mg base TT M) []) (C__law_days : Cal P w K mg base 2 "_law_days" (sp_days P w K mg base TT) []) : Cal P w K mg base (4 + M) "_law_chart_has" (sp_chasU P w K mg base TT M) [] := by
  obtain ⟨f, fd, F, B⟩ := F
  have hfc : fd.code = .ref c := by
    obtain ⟨oc, od, dV, kV, doc, pm, an, cdv, ct, osl, rfl, lk, hcd⟩ := F.fn.ex
    exact PySem.W.law_code KB GB ht F.mgf (KB _ _ lk) rfl
  rw [show 4 + M = 3 + M + 1 by omega]
  refine cal_esc F B .nil sc__law_chart_has (fun vs H Q E h => by obtain ⟨_, _, rfl, _⟩ := h; rfl) (fun cdv A outer s H vs Q E hr hcdv h => ?_)
  obtain ⟨v, ct, rfl, tr, ok, dp, hT, qq⟩ := h
  have hcode : cdv = .ref c := hcdv.symm.trans hfc
  have hn : ∀ {l cc : Nat}, decide (l = 452) = false → nmH l cc = ("_law_chart_has" : Str) ++ ".<locals>." ++ "<lambda>" := fun {l cc} h => by
    unfold nmH
    rw [if_neg (of_decide_eq_false h)]
    decide +kernel
  have hnd : ("_law_chart_has.<locals>._law_has_pair" : Str) = ("_law_chart_has" : Str) ++ ".<locals>." ++ "_law_has_pair" := by decide +kernel
  have nd := sc__law_chart_has.nd
  refine ⟨_, (px_if (pt_cmpR op_eq (pe_ix ix_tup (pv 0) pe_int (fun _ _ => rfl)) pe_str (nomark _)) (px_cons (ps_asg (pe_tup (pa_cons (pe_c C__law_days hr (by omega) rfl (pa_cons (pe_ix ix_tup (pv 0) pe_int (fun _ _ => rfl)) pa_nil)) (pa_cons (pe_c C__law_days hr (by omega) rfl (pa_cons (pe_ix ix_tup (pv 0) pe_int (fun _ _ => rfl)) pa_nil)) pa_nil))) (pg_tup rfl (pgs_cons (pg_name (i := 1) nd rfl (Or.inr rfl)) (pgs_cons (pg_name (i := 2) nd rfl (Or.inr rfl)) pgs_nil))))
      (px_ret (pe_lamX TB hcode hm (hn (by rfl)) hu (by rfl) (ndef_free nb__law_chart_has_lambda0))))
      (px_if (pt_cmpR op_eq (pe_callB call_len_seq (by rfl) T.b_len (by decide +kernel) (pa_cons (pv 0) pa_nil)) pe_int (nomark _)) (px_ret (pe_lamX TB hcode hm (hn (by rfl)) hu (by rfl) (ndef_free nb__law_chart_has_lambda1)))
      (px_cons (ps_set (i := 3) nd rfl (Or.inr rfl) (pe_lc (own := [("_law_part", 4)]) (g := gName 4) (by rfl) nd (pi_tup (pe_slice sl_tup (pv 0) (po_some pe_int) po_none)) (blkOk_by (own := [("_law_part", 4)]) (N := N__law_chart_has) (sc := C8.fnScope s__law_chart_has) (by decide +kernel)) (fun _ _ _ _ _ => pg_name (i := 4) nd rfl (Or.inl rfl)) (fun _ _ _ _ _ => pts_nil) (fun _ _ _ _ _ => (pe_c C__law_chart_has hr (by omega) rfl (pa_cons (pv 4) pa_nil)))))
      (px_cons (ps_ndefMS (st := s__law_has_pair) (i := 5) rfl TB hcode hm hnd hu (ndef_free nb__law_has_pair) rfl rfl rfl nd rfl (Or.inl rfl) (Or.inr rfl))
      (px_ret (pv 5)))))), ?_⟩
  have nt_ : ∀ {xs : List V} (ps : Array Value), HO.tup xs ≠ .tbl ps := fun ps z => by cases z
  have nl_ : ∀ {xs : List V} (ps : Array Value), HO.lst xs ≠ .tbl ps := fun ps z => by cases z
  have cls : (∃ a b, ct = .of a b) ∨ (∃ b, ct = .kst b) ∨ ∃ (t : Addr) (z : Str) (us0 : List V) (cs : List CT), v = .ref t ∧ H t = some (.tup (.str z :: us0)) ∧ Node ct z cs ∧ All2 (fun u c => TreeAt H u c) us0 cs ∧ (∀ c ∈ cs, c.ok ∧ c.dep + 1 ≤ M) ∧ decide (V.str z = V.str ("of" : Str)) = false ∧ cutV (.str z :: us0) (some 1) none = us0 ∧ 1 ≤ us0.length := by
    cases ct with
    | of a b => exact .inl ⟨a, b, rfl⟩
    | kst b => exact .inr (.inl ⟨b, rfl⟩)
    | inv c =>
      obtain ⟨t, u, e, ht, hu⟩ := tr
      exact .inr (.inr ⟨t, "~", [u], [c], e, ht, .inl ⟨c, rfl, rfl, rfl⟩, .cons hu .nil, fun c' hc => by rw [List.mem_singleton.mp hc]; exact ⟨ok, dp⟩, by decide +kernel, rfl, Nat.le_refl 1⟩)
    | bin o c e =>
      obtain ⟨t, u, u', q, ht, hu, hu'⟩ := tr
      obtain ⟨ho, okc, oke⟩ := ok
      have dp : max c.dep e.dep + 1 ≤ M := dp
      refine .inr (.inr ⟨t, opS o, [u, u'], [c, e], q, ht, .inr ⟨o, c, e, ho, rfl, rfl, rfl⟩, .cons hu (.cons hu' .nil), fun c' hc => ?_, opS_of o, rfl, (show 1 ≤ 2 by decide)⟩)
      rcases List.mem_cons.mp hc with rfl | hc
      · exact ⟨okc, by omega⟩
      · rw [List.mem_singleton.mp hc]
        exact ⟨oke, by omega⟩
  rcases cls with ⟨a, b, rfl⟩ | ⟨b, rfl⟩ | ⟨t, z, us0, cs, rfl, htt, hnode, htr, hsub, hzof, hcut, hu1⟩
  · obtain ⟨t, x, y, rfl, ht, hx, hy⟩ := tr
    obtain ⟨wa, wb⟩ := ok
    refine ⟨_, rfl, _, _, _, .str "of", rfl, rfl, .of ht, atI_nat (j := 0) rfl, rfl, _, rfl, ?_⟩
    refine ite2 (fun _ => ?_) (fun c => absurd (by decide +kernel) c)
    refine ⟨_, rfl, _, _, _, .ref x, rfl, rfl, .of ht, atI_nat (j := 1) rfl, x, a.l, a.low, a.m, a.r, rfl, hx, wa.l0, wa.r0, by have := wa.ll; omega, by have := wa.lm; omega, by have := wa.lr; omega, by have := wa.k0; have := wa.k1; omega, hT, fun c1 H1 e1 T1 n1 k1 => ?_⟩
    have ht1 := e1 _ _ ht nt_
    refine ⟨_, rfl, _, _, _, .ref y, rfl, rfl, .of ht1, atI_nat (j := 2) rfl, y, b.l, b.low, b.m, b.r, rfl, e1 _ _ hy nl_, wb.l0, wb.r0, by have := wb.ll; omega, by have := wb.lm; omega, by have := wb.lr; omega, by have := wb.k0; have := wb.k1; omega, T1, fun c2 H2 e2 T2 n2 k2 => ?_⟩
    refine ⟨le_szl 2 (by decide), fun tt nt => ⟨_, _, rfl, .of upd_self, rfl, _, _, rfl, _, _, rfl, rfl, ?_⟩⟩
    have l3 := Le.new (o := .tup [.ref c1, .ref c2]) nt
    refine ⟨T2.ext l3, fun p4 c4 H4 e4 T4 n4 f4 k4 => (fun H5 es => ?_)⟩
    have e24 : ExtN H2 H4 := fun b o e n => e4 b o (l3 _ _ e) n
    have e5 : ExtN H H5 := fun b o e n => es.le _ _ (e24 b o (e2 b o (e1 b o e n) n) n)
    obtain ⟨S, hS0, hS1⟩ := two_SE ((k1.n e2).n e24) (k2.n e24)
    refine qq p4 H5 e5 (T4.ext es.le) ?_
    refine ClN.mono (ClAtE.cln (k := 2) ?_) (by omega)
    refine esc_lamE (js := [1, 2]) (S0 := S) es nb__law_chart_has_lambda0 sc__law_chart_has.nofree rfl rfl ?_ f4 k4 hS0
    refine lok_of (k := 1) sc__law_chart_has_lambda0 (fun pm ctv us hl => match us, hl with | [_, _], _ => rfl) (fun vs r h => by obtain ⟨d, n, rfl, _⟩ := gP_some h; rfl) (fun A outer s H vs Q E r hr hS hg hq => ?_)
    obtain ⟨d, n, rfl, rfl⟩ := gP_some hg
    obtain ⟨K1, K2⟩ := hS1 _ es.le H hS
    have hq : Q (.bl (a.mem d && b.mem n)) H := hq
    refine ⟨_, (pe_and (pe_cloK (P := P) (w := w) (K := K) (mg := mg) (base := base) (i := 2) (k := 1) ⟨rfl, rfl, rfl, rfl, rfl⟩ (hr.mono (by first | decide | exact Nat.le_refl _ | omega)) (by rfl) (by first | exact Or.inl rfl | exact Or.inr (Or.inl rfl) | exact Or.inr (Or.inr rfl)) (pa_cons (pv 0) pa_nil)) (pe_one (pe_cloK (P := P) (w := w) (K := K) (mg := mg) (base := base) (i := 3) (k := 1) ⟨rfl, rfl, rfl, rfl, rfl⟩ (hr.mono (by first | decide | exact Nat.le_refl _ | omega)) (by rfl) (by first | exact Or.inl rfl | exact Or.inr (Or.inl rfl) | exact Or.inr (Or.inr rfl)) (pa_cons (pv 1) pa_nil)))), ?_⟩
    refine ⟨c1, gB a.mem, rfl, K1, _, rfl, K1, _, rfl, _, rfl, ?_⟩
    cases hf : a.mem d with
    | false => rw [hf] at hq; exact hq
    | true =>
      rw [hf] at hq
      exact ⟨c2, gB b.mem, rfl, K2, _, rfl, K2, _, rfl, hq⟩
  · obtain ⟨t, rfl, ht⟩ := tr
    refine ⟨_, rfl, _, _, _, .str (kstS b), rfl, rfl, .of ht, atI_nat (j := 0) rfl, rfl, _, rfl, ?_⟩
    rw [kstS_of]
    refine ite2 (fun c => absurd c (by decide)) (fun _ => ?_)
    refine ⟨_, rfl, t, _, rfl, .inr (.of ht), rfl, _, rfl, ?_⟩
    refine ite2 (fun _ => ?_) (fun c => absurd (show decide (V.int ((1 : Nat) : Int) = V.int 1) = true by decide) c)
    refine ⟨hT, fun p4 c4 H4 e4 T4 n4 f4 k4 => (fun H5 es => ?_)⟩
    have e5 : ExtN H H5 := fun b o e n => es.le _ _ (e4 b o e n)
    have ht4 := e4 _ _ ht nt_
    have ht5 := es.le _ _ ht4
    refine qq p4 H5 e5 (T4.ext es.le) ?_
    have key : ∃ S, ClS P w K mg base 2 S H5 p4 (gP (CT.kst b).g) ∧ ∀ a ∈ S, a ∈ [t] ∨ ∃ φ : Heap → Prop, H5 a = some (.ext φ) := by
      refine esc_lamS (k := 2) (g := gP (CT.kst b).g) (js := [0]) (S0 := [t]) es nb__law_chart_has_lambda1 sc__law_chart_has.nofree rfl rfl ?_ f4 k4 (fun a ha => by rw [List.mem_singleton.mp ha]; exact ⟨_, ht4, True.intro⟩)
      refine lok_of (k := 1) sc__law_chart_has_lambda1 (fun pm ctv us hl => match us, hl with | [_, _], _ => rfl) (fun vs r h => by obtain ⟨d, n, rfl, _⟩ := gP_some h; rfl) (fun A outer s H vs Q E r hr hS hg hq => ?_)
      obtain ⟨d, n, rfl, rfl⟩ := gP_some hg
      have hta : H t = some (.tup [.str (kstS b)]) := (hS t List.mem_cons_self).trans ht5
      have hq : Q (.bl b) H := hq
      refine ⟨_, (pe_cmpR op_eq (pe_ix ix_tup (pv 2) pe_int (fun _ _ => rfl)) pe_str (nomark _)), ?_⟩
      refine ⟨_, rfl, _, _, _, .str (kstS b), rfl, rfl, .of hta, atI_nat (j := 0) rfl, rfl, ?_⟩
      rw [kstS_every]
      exact hq
    obtain ⟨S, cS, hS⟩ := key
    refine ClN.mono (k := 2 + M) (j := 2) ⟨S, cS, fun a ha xs hx o ho => ?_⟩ (by omega)
    rcases hS a ha with h | ⟨φ, h⟩
    · rw [List.mem_singleton.mp h, ht5] at hx
      cases hx
    · rw [h] at hx
      cases hx
  obtain ⟨M', rfl⟩ : ∃ M', M = M' + 1 := ⟨M - 1, by
    rcases hnode with ⟨c, _, _, rfl⟩ | ⟨_, c, _, _, _, _, rfl⟩
    · have := (hsub c List.mem_cons_self).2; omega
    · have := (hsub c List.mem_cons_self).2; omega⟩
  refine ⟨_, rfl, _, _, _, .str z, rfl, rfl, .of htt, atI_nat (j := 0) rfl, rfl, _, rfl, ?_⟩
  rw [hzof]
  refine ite2 (fun c => absurd c (by decide)) (fun _ => ?_)
  refine ⟨_, rfl, t, _, rfl, .inr (.of htt), rfl, _, rfl, ?_⟩
  refine ite2 (fun c => ?_) (fun _ => ?_)
  · have c : V.int ((((V.str z :: us0).length : Nat)) : Int) = V.int 1 := of_decide_eq_true c
    injection c with c
    rw [List.length_cons] at c
    omega
  refine ⟨_, rfl, _, rfl, t, _, rfl, .of htt, fun h => ?_, fun q nq => ?_⟩
  · have h1 := h.1
    have h2 : HT.sIx (V.str z :: us0).length 0 (some ((1 : Nat) : Int)) = 0 := h1
    rw [HT.sIx_nat, List.length_cons] at h2
    omega
  rw [hcut]
  have l1 := Le.new (o := .tup us0) nq
  refine ⟨q, rfl, ⟨_, .of upd_self⟩, fun D nD => ?_⟩
  have hul := htr.len
  have hl2 : cs.length ≤ 2 := by
    rcases hnode with ⟨_, _, _, rfl⟩ | ⟨_, _, _, _, _, _, rfl⟩ <;> simp
  have eq1 : upd H q (.tup us0) q = some (.tup us0) := upd_self
  have hT1 := hT.ext l1
  have htt1 := l1 _ _ htt
  have htr1 : All2 (fun u c => TreeAt (upd H q (.tup us0)) u c) us0 cs := htr.imp fun v s h => h.le l1
  generalize upd H q (.tup us0) = H1 at l1 eq1 hT1 htt1 htr1 nD ⊢
  have hHD : H D = none := l1.none nD
  refine lc_effN (xs := us0) (TT := TT) walk_tup gives_at nD hT1 (fun H le => .of (le _ _ eq1 nt_)) cs hul.symm (le_szl _ (by omega)) (fun c => c) (fun v (c : CT) Hx => ∃ p, v = .ref p ∧ ClN P w K mg base (2 + M') (upd H1 D (.lst [])) Hx p (gP c.g)) ?_ ?_ ?_
  · rintro v s Ha Hb l hD ⟨p, rfl, cn⟩
    exact ⟨p, rfl, cn.lst l ⟨_, upd_self⟩ hD⟩
  · intro i u c' Hc hx hc le ⟨acc, hDl⟩ Tc
    obtain ⟨c2, hc2, tr2⟩ := htr1.get hx
    obtain rfl : c2 = c' := by rw [hc] at hc2; exact (Option.some.inj hc2).symm
    have hk := hsub c2 (List.mem_of_getElem? hc)
    refine ⟨_, ?_, fun K2 hK => hK, fun N hN => ⟨_, rfl, u, c2, rfl, tr2.n le, hk.1, by have := hk.2; omega, Tc, fun p H2 e2 T2 cn => hN _ H2 e2 T2 ⟨p, rfl, cn.less fun a o ho no => ?_⟩⟩⟩
    · rfl
    · by_cases ca : a = D
      · exact ⟨_, by rw [ca]; exact hDl, fun ps z => by cases z⟩
      · rw [upd_ne ca] at ho
        exact ⟨o, le a o ho no, no⟩
  · intro H2 us e2 T2 eD hA
    rw [List.map_id'] at hA
    refine ⟨T2, fun p4 c4 H3 e3 nn T3 f0 f3 k3 => ?_⟩
    refine ⟨_, rfl, fun H4 es => ?_⟩
    have hA3 : All2 (fun v (c : CT) => ∃ p, v = .ref p ∧ ClN P w K mg base (2 + M') (upd H1 D (.lst [])) H3 p (gP (CT.g c))) us cs := hA.imp fun v s ⟨p, e, cn⟩ => ⟨p, e, cn.n e3⟩
    obtain ⟨S1, s1, s2, s3⟩ := all_S hA3
    have htt3 : H3 t = some (.tup (.str z :: us0)) := e3 _ _ (e2 _ _ htt1 nt_) nt_
    have eD3 : H3 D = some (.lst us) := e3 _ _ eD nl_
    have e14 : ExtN H H4 := fun b o e n => es.le _ _ (e3 b o (e2 b o (l1 _ _ e) n) n)
    refine qq p4 H4 e14 (T3.ext es.le) ?_
    have hS0 : ∀ a ∈ t :: D :: S1, ∃ o, H3 a = some o ∧ Kd o := fun a ha => by
      rcases List.mem_cons.mp ha with rfl | ha
      · exact ⟨_, htt3, True.intro⟩
      rcases List.mem_cons.mp ha with rfl | ha
      · exact ⟨_, eD3, True.intro⟩
      exact s1 a ha
    have h43 : ∀ a ∈ t :: D :: S1, H4 a = H3 a := fun a ha => by
      obtain ⟨o, ho, _⟩ := hS0 a ha
      rw [ho]
      exact es.le _ _ ho
    obtain ⟨S, cS, hS⟩ := esc_clsSG (k := 2 + M' + 1) (g := gP ct.g) (js := [0, 3]) (S0 := t :: D :: S1) es nb__law_has_pair sc__law_chart_has.nofree rfl rfl
      (n_pair T (k := 2 + M') hnode List.mem_cons_self (List.mem_cons_of_mem _ List.mem_cons_self) (fun a ha => by
        obtain ⟨o, ho, _⟩ := hS0 a ha
        exact ⟨o, es.le _ _ ho⟩) (es.le _ _ htt3) (es.le _ _ eD3) fun Hn hn => s3 Hn fun a ha => (hn a (List.mem_cons_of_mem _ (List.mem_cons_of_mem _ ha))).trans (h43 a (List.mem_cons_of_mem _ (List.mem_cons_of_mem _ ha)))) f3 k3 hS0
    refine ⟨S, cS, fun a ha xs hx o ho => Classical.byContradiction fun no => ?_⟩
    rcases hS a ha with h | ⟨φ, h⟩
    · rw [h43 a h] at hx
      rcases List.mem_cons.mp h with rfl | h
      · rw [htt3] at hx
        cases hx
      rcases List.mem_cons.mp h with rfl | h
      · rw [hHD] at ho
        cases ho
      refine no (s2 a h xs hx o ?_)
      rw [upd_ne (fun c => by rw [c, hHD] at ho; cases ho)]
      exact l1 _ _ ho
    · rw [h] at hx
      cases hx
end
end Od
end
section
set_option Elab.async false
set_option linter.all false
set_option maxRecDepth 100000
set_option maxHeartbeats 4000000
set_option autoImplicit false
/-! own exception classes over ValueError, whose __init__ says super().__init__(..): made, read, asked by isinstance, raised -/
namespace Od
open PySem PySem.Spec PyProof.Rows L2
/-! ### the wrapper that super().__init__ gives, called -/
section
open PySem.W PySem.Calls
variable {prog : Program} {w : World} {A : Around} {E : Value → Shared → Prop} {h : Heap} {g : Array GenState} {d : Drawn} {t : Nat} {os : OsState}
variable {nm q : Str} {C N : Addr} {bs bm : List Value} {hdct : Bool} {sn : List Str} {sub : List Value} {ab : Bool} {col : Option Bool} {dd : Option Addr} {k0 k1 k2 k3 k5 : Option Value}
theorem call_mwVE {u e t0 : Addr} {rest : List Value} {Q : Value → Shared → Prop}
    (hC : h.get? C = some (excClassObj nm q C N bs bm hdct sn sub ab col dd k0 k1 k2 k3 k5 "ValueError.__new__")) (he : h.get? e = some (HandSPX.excO C t0)) (hu : h.get? u = some (kxs_mw "ValueError.__init__" e)) (hrest : rest.length ≤ sizeLine)
    (hq : ∀ h' t1, (∀ b o, b ≠ e → h.get? b = some o → h'.get? b = some o) → h'.get? e = some (HandSPX.excO C t1) → Q .none ⟨h', g, d, t, os⟩) :
    wpAny (model prog w) A (call (.ref u) rest) Q E ⟨h, g, d, t, os⟩ := by
  refine wpAny_call (codeAny_of_tree ?_)
  show wpAny _ A.in1 (callAny (.ref u) ⟨rest, []⟩) _ _ _
  simp only [callAny]
  refine wpAny_bind (wpAny_load hu ?_)
  simp only [kxs_mw, show (Value.type "method-wrapper" == Value.type "method" || Value.type "method-wrapper" == Value.type "builtin_function_or_method" || Value.type "method-wrapper" == Value.type "method-wrapper") = true by decide, if_true]
  refine W.KFB.if_so (by decide) ?_
  refine wpAny_bind (ESX.check_bound F.excBase_ValueError hC he rfl ?_)
  refine wpAny_bind (wpAny_pure (wpAny_pure ?_))
  refine ⟨Code.quiet_builtin _ (by decide +kernel), codeAny_builtin F.excBase_ValueError.initEntry ?_⟩
  rw [Around.under_plainId F.excBase_ValueError.init.plain _]
  wp_walk
  refine hq _ h.objs.size (fun b o hb ho => ?_) ?_
  · rw [Heap.get?_update_other _ _ (Ne.symm hb)]
    exact Heap.get?_push_of_some _ ho
  · rw [Heap.get?_update_self _ (Heap.get?_push_of_some _ he) rfl]
    rfl
end
/-! ### what the written part says of such a class -/
structure SupC (K : PySem.W.Frag) (C : Addr) : Prop where
  ox : OexC K C
  xf : XfC K C
  ec : ExcC K C
  mro : PySem.W.mroIn K C (.ref C) = some true
  sup : PySem.W.ks_superIn K C C "__init__" = some (some (.builtin "ValueError.__init__"))
  val : PySem.W.subIn K (.ref C) (.type "ValueError") = some true
  opq : PySem.W.nsIn K cStatics "thirdparty.any" = some none
/-- its __init__, a def that keeps its class in a cell -/
structure SupFun (K : PySem.W.Frag) (file : Str) (C : Addr) (qual : Str) (args : Arguments) (body : List Stmt) (scope : Scope) (f : Addr) (fd : FuncData) : Prop where
  ex : ∃ (oc : Value) (od : Option Addr) (doc pm ct : Value) (osl : Array (Option Value)) (cc : Addr) (ccl : Value) (ccd : Option Addr) (ccs : Array (Option Value)) (cd : Addr) (kcl : Value) (kcd : Option Addr) (kcs : Array (Option Value)) (vs : Array Value) (tf : Tok) (kV : Value) (an : Option Addr),
    fd = PySem.W.fnX "__init__" qual args body scope [("__class__", cc)] .none kV doc pm an (.ref cd) ct ∧ K.lookup f = some ⟨oc, od, .func fd, osl⟩ ∧ PySem.W.codeIn K (.ref cd) qual = true ∧
      K.lookup cc = some ⟨ccl, ccd, .cell (some (.ref C)), ccs⟩ ∧ K.lookup cd = some ⟨kcl, kcd, .fields vs, kcs⟩ ∧ vs[2]? = some (.str file tf)
/-- what the program says of the name super -/
structure SupP (P : Program) (file : Str) : Prop where
  hfile : ((P.main.file : Str) == file) = true
  htop : (P.main.scope.names.lookup ("super" : Str)).isSome = false
/-- what the def's scope says -/
structure SupS (scope : Scope) (args : Arguments) (x : Str) : Prop where
  su : scope.names.lookup ("super" : Str) = some .globalImplicit
  cl : scope.names.lookup ("__class__" : Str) = some .free
  lo : scope.names.lookup x = some .local
  hd : ∃ ar : Arg, (args.posonlyargs ++ args.args).head? = some ar ∧ ar.arg = x
abbrev supNF (qual : Str) (args : Arguments) (scope : Scope) (cc cd : Addr) : NdefX.NF := ⟨"__init__", qual, args, [], scope, [("__class__", cc)], cd⟩
/-- super().__init__(e), then the rest -/
def tSup (C : Addr) (ta : TA) (tr : TS) : TS := fun D σ H => ∃ a : Addr, σ[0]? = some (some (.ref a)) ∧ H a = some (exo a C none) ∧ ta σ H fun vs H1 => vs.length ≤ 1000 ∧ H1 a = some (exo a C none) ∧ tr D σ H1
/-- how the call is evaluated -/
def SupEv (e : Expr) (p0 p1 p2 p3 : Pos) (env : Env) : Prop := ∃ pl : Sem Bool, eval (.Call (.Attribute (.Call (.Name "super" p0) [] [] p1) "__init__" p2) [e] [] p3) env = (do
      let ov ← attributeBase (.Call (.Name "super" p0) [] [] p1) "__init__" env (eval (.Call (.Name "super" p0) [] [] p1) env)
      standAt p2.atName
      let (f, first) ← holding [ov] (getMethod ov "__init__" pl)
      callWith p3 f first (backTo p3 (starEach [e] env)) [])
theorem Inv.addPin {X : Cx} {pins : List (Addr × Obj)} {σ : L2.St} {H : Hp} {s : Shared} {p : Addr × Obj} (I : Inv X pins σ H s) (h : s.heap.get? p.1 = some p.2 ∧ H p.1 = none ∧ p.1 ≠ X.env.locals ∧ p.1 ∉ X.fs ∧ ∀ v, p.2.data ≠ .cell v) : Inv X (p :: pins) σ H s :=
  ⟨I.ok, I.os, I.bare, I.base, I.loc, I.cell, I.free, I.freeC, fun q hq => by
    rcases List.mem_append.mp hq with hq | hq
    · exact I.pin q (List.mem_append_left _ hq)
    · rcases List.mem_cons.mp hq with rfl | hq
      · exact h
      · exact I.pin q (List.mem_append_right _ hq), I.hok, I.len⟩
theorem Inv.dropPin {X : Cx} {pins : List (Addr × Obj)} {σ : L2.St} {H : Hp} {s : Shared} {p : Addr × Obj} (I : Inv X (p :: pins) σ H s) : Inv X pins σ H s :=
  ⟨I.ok, I.os, I.bare, I.base, I.loc, I.cell, I.free, I.freeC, fun q hq => by
    rcases List.mem_append.mp hq with hq | hq
    · exact I.pin q (List.mem_append_left _ hq)
    · exact I.pin q (List.mem_append_right _ (List.mem_cons_of_mem _ hq)), I.hok, I.len⟩
section
variable {P : Program} {w : World} {K : PySem.W.Frag} {mg : Str → Option Value} {base : Heap} {CX : CXT}
open PySem.W PySem.Calls in
/-- the walk from super() to the rest of the body, over any context -/
theorem sup_run {X : Cx} {C f cc cd : Addr} {fd : FuncData} {file x : Str} {e : Expr} {rest : List Stmt} {p0 p1 p2 p3 p4 : Pos} {σ : L2.St} {H : Hp} {s : Shared} {ta : TA} {tr : TS} {D : Ends} {ar : Arg} {vss : Array Value} {tf : Tok} {oc : Value} {od : Option Addr} {osl : Array (Option Value)} {ccl : Value} {ccd : Option Addr} {ccs : Array (Option Value)} {kcl : Value} {kcd : Option Addr} {kcs : Array (Option Value)} {bd : List Stmt}
    (I : Inv X [] σ H s) (SC : SupC X.K C) (hP : SupP X.prog file) (lk : X.K.lookup f = some ⟨oc, od, .func fd, osl⟩) (hcc : X.K.lookup cc = some ⟨ccl, ccd, .cell (some (.ref C)), ccs⟩) (hco : X.K.lookup cd = some ⟨kcl, kcd, .fields vss, kcs⟩) (hvs : vss[2]? = some (.str file tf))
    (su : X.env.kindOf ("super" : Str) = some .globalImplicit) (cl : X.env.kindOf ("__class__" : Str) = some .free) (lo : X.env.kindOf x = some .local) (vi : Vis X.env.scope x) (hd : (fd.params.posonlyargs ++ fd.params.args).head? = some ar) (hx : ar.arg = x)
    (ef : X.env.func = some f) (ec : X.env.code = .ref cd) (ecl : X.env.cells.lookup ("__class__" : Str) = some cc) (hN : X.N[0]? = some x) (hsu : X.mg "super" = none) (hta : PA X [e] ta) (htr : PSs X rest tr)
    (he : starEach [e] X.env = (false, eval e X.env) :: starEach [] X.env) (hme : SupEv e p0 p1 p2 p3 X.env) (hq : tSup C ta tr D σ H) :
    PySem.wpAt (model X.prog X.w) X.A (.func bd X.env) (execs (.Expr (.Call (.Attribute (.Call (.Name "super" p0) [] [] p1) "__init__" p2) [e] [] p3) p4 :: rest) X.env) (SP X [] D) X.xe s := by
  obtain ⟨a, ha0, hex, hq⟩ := hq
  obtain ⟨nm, qq, N', bs, bm, sn, sub, ab, col, dd, k0, k1, k2, k3, k5, hC, hbm⟩ := SC.ox.cls
  have hcl : clsIn X.K C = some { name := nm, bases := bs, mro := .ref C :: bm, ns := N', qualname := qq, hasDict := true, slotNames := sn, subclasses := sub, abstract := ab, collection := col, hasDel := false } := by unfold clsIn; rw [hC] <;> rfl
  obtain ⟨m, hm, hlk⟩ := id I.loc
  obtain ⟨u0, hu0, lk0⟩ := hlk 0 x (.ref a) hN ha0 vi
  obtain rfl : u0 = Value.ref a := hu0
  have hv : m x = some (.ref a) := by
    rcases lk0 with ⟨_, h⟩ | ⟨h, _⟩
    · exact h
    · rw [lo] at h
      rcases h with h | h <;> cases h
  obtain ⟨t1, hoe⟩ := exo_at I.hok hex
  obtain ⟨mb, hb1, hb2⟩ := I.mod.blt
  have KX := I.kIn
  obtain ⟨hp, g, dr, tk, os⟩ := s
  refine ks_wpAt_execs_cons ?_
  refine ks_wpAt_Expr_any ?_ (by unfold interactive; rw [I.ok.kind]; rfl)
  obtain ⟨pl, hme⟩ := hme
  refine ks_wpAt_MethodCall (pl := pl) ?_ hme
  refine ks_wpAt_super_base (env := X.env) su cl (by decide) ef (KX _ _ lk) rfl hd ec (KX _ _ hco) rfl hvs hP.hfile hP.htop ?_
  refine ks_loadName_global I.ok.kind su (loadGlobal_builtin (by rw [I.ok.glob]; exact I.mod.glob.keeps I.bk) hsu (by rw [I.ok.blt]; exact hb1.keeps I.bk) ((hb2 "super" (by decide)).trans (show bootBuiltins "super" = some (.type "super") from by first | rfl | decide +kernel | kernel_rfl)) ⟨rfl, ?_⟩)
  refine wpAny_loadName_free I.ok.kind cl ecl ⟨_, KX _ _ hcc, rfl⟩ ?_
  refine wpAny_loadName_local I.ok.kind (by rw [hx]; exact lo) hm (by rw [hx]; exact hv) ?_
  refine ks_wpAny_isType_cls (KX _ _ hC) rfl ⟨rfl, ?_⟩
  refine ks_wpAny_call_super (KX _ _ hC) rfl hoe rfl (fun c z => nomatch z) (looks_mroIn KX SC.mro) (fun h2 hso k2 => ?_)
  have I2 : Inv X [] σ H ⟨h2, g, dr, tk, os⟩ := I.kept (t' := tk) k2
  have ho2 := k2 _ _ hoe
  have J2 : InstAt h2 a _ C none := ⟨ho2, rfl, rfl, trivial⟩
  refine kxs_getMethod kxs_ValueError hso (looks_opaque I2.kIn SC.opq) (l₀ := Value.ref C :: bm) (fun A Q E s k q => wpAny_bind ((looks_clsIn I2.kIn hcl) A _ E s k (wpAny_pure q))) rfl I2.kIn (by
    have z := SC.sup
    unfold ks_superIn at z
    rw [hcl] at z
    exact z) (J2.type.andThen (looks_subIn I2.kIn SC.val)) (ks_ne I2.kIn J2 hcl) (by decide) ?_
  obtain ⟨h3, hh3⟩ : ∃ h3, h3 = h2.push (kxs_mw "ValueError.__init__" a) := ⟨_, rfl⟩
  have k3 : ∀ b o, h2.get? b = some o → h3.get? b = some o := fun b o z => by rw [hh3]; exact Heap.get?_push_of_some _ z
  have hmw : h3.get? h2.objs.size = some (kxs_mw "ValueError.__init__" a) := by rw [hh3]; exact Heap.get?_push_at rfl rfl
  rw [← hh3]
  have I3 : Inv X [(h2.objs.size, kxs_mw "ValueError.__init__" a)] σ H ⟨h3, g, dr, tk + 1, os⟩ := by
    refine Inv.addPin (I2.kept (t' := tk + 1) k3) ⟨hmw, I2.hok.fresh (Nat.le_refl _), Ne.symm (Nat.ne_of_lt I2.lt), I2.nofs (Nat.le_refl _), fun v z => nomatch z⟩
  show wpAny _ _ (callWith p3 (.ref h2.objs.size) [] (backTo p3 (starEach [e] X.env)) []) _ _ _
  rw [he]
  refine kxs_callWith (i := "ValueError.__init__") (x := a) rfl (evalArgs_plain ?_)
  have run := hta.run p3 _ _ σ H _ I3 hq
  rw [he] at run
  refine thn run fun us s4 ⟨vs, H4, I4, r4, hlv, ea, q4⟩ => ?_
  obtain ⟨hp4, _⟩ := I4.pin (h2.objs.size, kxs_mw "ValueError.__init__" a) (by simp)
  refine ⟨hp4, ?_⟩
  obtain ⟨t4, hoe4⟩ := exo_at I4.hok ea
  obtain ⟨hp5, g5, d5, tk5, os5⟩ := s4
  have hlen : us.length ≤ sizeLine := by
    rw [← Paired.length r4, sizeLine_eq]
    omega
  refine call_mwVE (I4.kIn _ _ hC) hoe4 hp4 hlen fun h6 t6 k6 hx6 => ?_
  have J := (Inv.dropPin I4).write (t' := tk5) (x := a) (e := a) (o := exo a C none) (by rw [ea]; exact True.intro) (.inl rfl) k6 ⟨_, hx6⟩ (exo_ok hx6)
  have eu : upd H4 a (exo a C none) = H4 := by
    funext b
    by_cases hb : b = a
    · rw [hb, L2.upd_same, ea]
    · rw [L2.upd_ne hb]
  rw [eu] at J
  exact PySem.wpAt_of_wpAny (htr.run [] _ σ H4 D J q4)
theorem fn_sup {k : Nat} {f C : Addr} {fd : FuncData} {file qual x : Str} {args : Arguments} {e : Expr} {rest : List Stmt} {scope : Scope} {p0 p1 p2 p3 p4 : Pos} {N ps : List Str} {sp : Sp}
    (F : SupFun K file C qual args (.Expr (.Call (.Attribute (.Call (.Name "super" p0) [] [] p1) "__init__" p2) [e] [] p3) p4 :: rest) scope f fd) (SC : SupC K C) (hP : SupP P file) (S : NdefX.NScope N ps ["__class__"] scope) (SS : SupS scope args x)
    (hx : N[0]? = some x) (hsu : mg "super" = none) (len : ∀ vs H Q E, sp vs H Q E → vs.length = ps.length)
    (hbody : ∀ (cc cd : Addr) (A : Around) (outer : List Env) (s : Shared) (H : Hp) (vs : List V) (Q : VK) (E : XK), Room k (A.deeper (NdefX.envF (supNF qual args scope cc cd) f s.heap.objs.size)) → sp vs H Q E →
      ∃ ta tr, PA (NdefX.ncx CX P w K mg base N (supNF qual args scope cc cd) f A outer s H E) [e] ta ∧ PSs (NdefX.ncx CX P w K mg base N (supNF qual args scope cc cd) f A outer s H E) rest tr ∧
        tSup C ta tr { nx := fun _ H' => Q .non H', rt := Q } (NdefX.startF N vs [none]) H)
    (he : ∀ env, starEach [e] env = (false, eval e env) :: starEach [] env := by intro _; rfl) (hme : ∀ env, SupEv e p0 p1 p2 p3 env := by intro _; exact ⟨_, rfl⟩) :
    FnOk P w K mg base CX (k + 1) f fd ps sp := by
  refine ⟨len, fun A outer s H args' us vs Q E hr e0 hb r hsp => ?_⟩
  have hl := len _ _ _ _ hsp
  obtain ⟨oc, od, doc, pm, ct, osl, cc, ccl, ccd, ccs, cd, kcl, kcd, kcs, vss, tf, kV, an, rfl, lk, hcd, hcc, hco, hvs⟩ := F.ex
  have KX : K.In s.heap := e0.mod.kin.keeps fun b o e => (e0.bs b o e).1
  have lim : s.heap.NoLimit := e0.mod.nolimit.keeps fun b o e => (e0.bs b o e).1
  refine PySem.ks_codeAny_call_defAt hr.depth (KX _ _ lk) rfl lim (PySem.W.codeRec_of KX hcd) rfl hb S.nocell (fun ⟨n, v⟩ hy => S.par n (List.of_mem_zip hy).1) (fun h₁ hns kp => ?_) S.co S.gen S.kind
  obtain ⟨ta, tr, hta, htr, hq⟩ := hbody cc cd A outer s H vs Q E (hr.deeper _) hsp
  have hb0 := e0.mod.kin _ _ hcc
  have Cx : NdefX.CellsAt [("__class__", cc)] ["__class__"] [none] s.heap H := by
    refine ⟨rfl, fun y c hy => ?_, fun y z c h1 h2 => ?_, fun i y hy => ?_⟩
    · have e1 : c = cc := by
        rw [List.lookup_cons] at hy
        split at hy
        · exact (Option.some.inj hy).symm
        · cases hy
      rw [e1]
      exact ⟨(e0.bs _ _ hb0).2, some (.ref C), _, (e0.bs _ _ hb0).1, rfl⟩
    · have key : ∀ y c, ([("__class__", cc)] : List (Str × Addr)).lookup y = some c → y = "__class__" := fun y c hy => by
        rw [List.lookup_cons] at hy
        split at hy
        · rename_i q
          exact eq_of_beq q
        · cases hy
      rw [key y c h1, key z c h2]
    · cases i with
      | zero =>
        cases hy
        exact ⟨cc, rfl, fun v hv => nomatch hv⟩
      | succ i => cases hy
  have I : Inv (NdefX.ncx CX P w K mg base N (supNF qual args scope cc cd) f A outer s H E) [] (NdefX.startF N vs [none]) H { s with heap := h₁, toks := s.toks + (ps.zip us).length } := NdefX.inv_startN S hr.hd e0 hl r Cx hns kp
  obtain ⟨ar, har, hax⟩ := SS.hd
  have run := sup_run (bd := .Expr (.Call (.Attribute (.Call (.Name "super" p0) [] [] p1) "__init__" p2) [e] [] p3) p4 :: rest) (p0 := p0) (p1 := p1) (p2 := p2) (p3 := p3) (p4 := p4) I SC hP lk hcc hco hvs SS.su SS.cl SS.lo (.inl SS.lo) har hax rfl rfl rfl hx hsu hta htr (he _) (hme _) hq
  refine PySem.ks_wpAt_mono run (fun fl s' hs => ?_) fun e s' hs => hs
  have fin : ∀ {σ' : L2.St} {H' : Hp} {v : V} {u : Value}, Inv (NdefX.ncx CX P w K mg base N (supNF qual args scope cc cd) f A outer s H E) [] σ' H' s' → L2.RelV v u → Q v H' → CE outer P w H s Q u s' :=
    fun {σ' H' v u} J rv q => ⟨v, H', J.os, J.bare, J.base, J.hok, rv, q⟩
  cases fl with
  | ret u =>
    obtain ⟨v, σ', H', J, rv, q⟩ := hs
    exact fin J rv q
  | next =>
    obtain ⟨σ', H', J, q⟩ := hs
    exact fin (v := V.non) (u := Value.none) J rfl q
  | brk =>
    obtain ⟨_, _, _, q⟩ := hs
    exact False.elim q
  | cont =>
    obtain ⟨_, _, _, q⟩ := hs
    exact False.elim q
end
end Od
end
section
set_option Elab.async false
set_option linter.all false
set_option maxRecDepth 100000
set_option maxHeartbeats 4000000
set_option autoImplicit false
/-! own exceptions: made as values, their fields read, asked by isinstance; raised -/
namespace Od
open PySem PySem.Spec PyProof.Rows L2
/-! ### made -/
/-- a class of the module with an __init__ that is walked -/
structure OMk (P : Program) (w : World) (K : PySem.W.Frag) (mg : Str → Option Value) (base : Heap) (j : Nat) (x : Str) (C : Addr) (sp : Sp) : Prop where
  sc : SupC K C
  gl : mg x = some (.ref C)
  ex : ∃ (fI : Addr) (fd : FuncData) (ps : List Str), PySem.W.findIn K (.ref C) "__init__" = some (some (.ref fI)) ∧ PySem.W.typeIn K (.ref fI) = some (.type "function") ∧ FnOk P w K mg base C8.CX0 j fI fd ps sp ∧ Binds K fd ps []
/-- C(e, ..) as a value -/
def tMkV (C : Addr) (sp : Sp) (ta : TA) : TE := fun σ H Q => ta σ H fun vs H1 => vs.length ≤ 1000 ∧ ∀ a, H1 a = none → sp (.ref a :: vs) (upd H1 a (exo a C none)) (fun v H2 => v = .non ∧ Q (.ref a) H2) fun _ _ _ => False
section
variable {X : Cx} {C : Addr} {sp : Sp} {j : Nat} {x : Str} {e : Expr} {es : List Expr} {ta : TA} {p pos : Pos}
theorem run_mkV {pins : List (Addr × Obj)} {σ : L2.St} {H1 : Hp} {s1 : Shared} {us : List Value} {vs : List V} {Q : V → Hp → Prop} (M : OMk X.prog X.w X.K X.mg X.base j x C sp) (hr : Room (j + 1) X.A) (I1 : Inv X pins σ H1 s1) (r1 : Vals vs us) (hz : vs.length ≤ 1000)
    (q1 : ∀ a, H1 a = none → sp (.ref a :: vs) (upd H1 a (exo a C none)) (fun v H2 => v = .non ∧ Q (.ref a) H2) fun _ _ _ => False) :
    wpAny (model X.prog X.w) X.A (call (.ref C) us) (EP X pins σ Q) X.xe s1 := by
  obtain ⟨fI, fd, ps, iC, tI, F1, hb⟩ := M.ex
  obtain ⟨nm, q, N, bs, bm, sn, sub, ab, col, dd, k0, k1, k2, k3, k5, hC, hbm⟩ := M.sc.ox.cls
  obtain ⟨hp, g, dr, tk, os⟩ := s1
  have hsz : hp.objs.size ≤ hp.objs.size + 1 := Nat.le_succ _
  have hn : H1 (hp.objs.size + 1) = none := I1.hok.fresh hsz
  have hq := q1 (hp.objs.size + 1) hn
  have kk : ∀ b o, hp.get? b = some o → ((hp.push (PySem.W.kdv_tup us)).push (PySem.HandSPX.excO C hp.objs.size)).get? b = some o := fun b o e => Heap.get?_push_of_some _ (Heap.get?_push_of_some _ e)
  have hget : ((hp.push (PySem.W.kdv_tup us)).push (PySem.HandSPX.excO C hp.objs.size)).get? (hp.objs.size + 1) = some (PySem.HandSPX.excO C hp.objs.size) := by heap_get
  have I2 : Inv X pins σ (upd H1 (hp.objs.size + 1) (exo (hp.objs.size + 1) C none)) ⟨(hp.push (PySem.W.kdv_tup us)).push (PySem.HandSPX.excO C hp.objs.size), g, dr, tk, os⟩ :=
    I1.laid (t' := tk) (a := hp.objs.size + 1) (o := exo (hp.objs.size + 1) C none) (h' := (hp.push (PySem.W.kdv_tup us)).push (PySem.HandSPX.excO C hp.objs.size)) kk hsz (exo_ok hget)
  have r2 : Vals (V.ref (hp.objs.size + 1) :: vs) (Value.ref (hp.objs.size + 1) :: us) := .cons rfl r1
  have hl : (Value.ref (hp.objs.size + 1) :: us ++ []).length = ps.length := by
    have e := r2.length
    rw [F1.len _ _ _ _ hq] at e
    rw [List.append_nil]
    exact e.symm
  have hus : us.length ≤ sizeLine := by
    rw [← Paired.length r1, sizeLine_eq]
    omega
  refine wpAny_call (PySem.HandSPX.call_own F.excBase_ValueError (fun Y => PySem.HandSPX.refsVE_contains Y bm hbm) (I1.kIn _ _ hC) (PySem.W.looks_findIn I1.kIn iC) (fun self => PySem.W.bind_fn I1.kIn self tI) hus
    (codeAny_mono (F1.run _ X.stack _ _ ⟨Value.ref (hp.objs.size + 1) :: us, []⟩ (Value.ref (hp.objs.size + 1) :: us) _ _ (fun _ _ _ => False) (hr.make C us []) (I2.env0.make C us []) (by
      have z := hb _ (Value.ref (hp.objs.size + 1) :: us) I2.kIn hl
      rw [List.append_nil] at z
      exact z) r2 hq) fun r s' hq' => ?_))
  cases r with
  | error er => exact hq'.elim
  | ok fl =>
    cases fl with
    | ret u =>
      obtain ⟨v, H2, os2, bare2, un2, hok2, rv, ev, q2⟩ := hq'
      subst ev
      exact ⟨rv, I2.after (u := .ref (hp.objs.size + 1)) (Q := Q) ⟨.ref (hp.objs.size + 1), H2, os2, bare2, un2, hok2, rfl, q2⟩⟩
    | next => exact False.elim hq'
    | brk => exact False.elim hq'
    | cont => exact False.elim hq'
theorem pe_mkV (M : OMk X.prog X.w X.K X.mg X.base j x C sp) (hr : Room (j + 1) X.A) (hg : Gl X x) (ha : PA X (e :: es) ta)
    (hdb : (x == ("__debug__" : Str)) = false := by decide) (he : starEach (e :: es) X.env = (false, eval e X.env) :: starEach es X.env := by rfl) (hpl : (backTo pos (starEach es X.env)).any (·.1) = false := by rfl) :
    PE X (.Call (.Name x p) (e :: es) [] pos) (tMkV C sp ta) := by
  refine ⟨fun pins s σ H Q I h => ?_⟩
  refine wpAny_Call_Name_kw (ld_glob I hg M.gl ?_ hdb)
  refine PySem.W.callWith_K (h₀ := X.base) I.ok.mod.kin M.sc.ox.kC (thn (ha.run pos pins s σ H _ I h) fun us s1 ⟨vs, H1, I1, r1, hlv, q1⟩ => ⟨I1.kIn, ?_⟩) he hpl
  exact run_mkV M hr I1 r1 hlv q1
theorem pe_mkV0 (M : OMk X.prog X.w X.K X.mg X.base j x C sp) (hr : Room (j + 1) X.A) (hg : Gl X x) (hdb : (x == ("__debug__" : Str)) = false := by decide) :
    PE X (.Call (.Name x p) [] [] pos) (tMkV C sp tNil) := by
  refine ⟨fun pins s σ H Q I h => ?_⟩
  refine wpAny_Call_Name_kw (ld_glob I hg M.gl ?_ hdb)
  obtain ⟨hlv, q1⟩ := h
  exact PySem.W.callWith_K0 I.kIn M.sc.ox.kC (run_mkV (us := []) M hr I .nil hlv q1)
end
/-- such a class of the module as it stands behind the top -/
structure SupOf (K : PySem.W.Frag) (mg : Str → Option Value) (x : Str) (C : Addr) (qual : Str) (st : Stmt) (ps : List Str) : Prop where
  sc : SupC K C
  gl : mg x = some (.ref C)
  ex : ∃ (f : Addr) (fd : FuncData), PySem.W.findIn K (.ref C) "__init__" = some (some (.ref f)) ∧ PySem.W.typeIn K (.ref f) = some (.type "function") ∧ SupFun K "/claim/cut.py" C qual (C8.fnArgs st) (C8.fnBody st) (C8.fnScope st) f fd ∧ Binds K fd ps []
/-! ### an exception that is made, by its class and fields -/
/-- at a: an exception of the class C with these fields -/
inductive ErrAt (H : Hp) (a C : Addr) : List (Str × V) → Prop where
  | no (h : H a = some (exo a C none)) : ErrAt H a C []
  | is (d : Addr) (fs : List (Str × V)) (h : H a = some (exo a C (some d))) (hd : H d = some (exd d fs)) : ErrAt H a C fs
theorem ErrAt.le {H H' : Hp} {a C : Addr} {fs : List (Str × V)} (e : ErrAt H a C fs) (l : ∀ b o, H b = some o → H' b = some o) : ErrAt H' a C fs := by
  cases e with
  | no h => exact .no (l _ _ h)
  | is d fs h hd => exact .is d fs (l _ _ h) (l _ _ hd)
section
open PySem.W
variable {prog : Program} {w : World} {A : Around} {E : Value → Shared → Prop} {s : Shared} {K : Frag} {x D : Addr} {ox : Obj} {od : Option Obj}
theorem findObj_dataO {C : Addr} {name : Str} {a g : Value} (hc : (clsIn K C).isSome = true) (ha : findIn K (.ref C) name = some (some a)) (hg : specialIn K a "__get__" = some (some g)) (ht : takesIn K a = some true) : findObj K C od name = some (.bind g a) := by
  obtain ⟨cd, hc⟩ := Option.isSome_iff_exists.mp hc
  unfold findObj
  rw [hc, Option.bind_some, ha, Option.bind_some]
  simp [hg, ht]
theorem kin_classO {Q : Option Value → Shared → Prop} (C : ExcC K D) (X : K.In s.heap) (I : InstAt s.heap x ox D od) (h : Q (some (.ref D)) { s with toks := s.toks + 1 }) : wpAny (model prog w) A (getAttr? (.ref x) "__class__") Q E s := by
  obtain ⟨hga, hgt, hsub, hdct, ha, hn, htk, hm⟩ := C
  have hf : findObj K D od "__class__" = some (.bind (.builtin "getset_descriptor.__get__") (.builtin "object.__class__")) := findObj_dataO (by obtain ⟨cd, hc, _⟩ := any_some hdct; rw [hc]; rfl) ha hn htk
  obtain ⟨hp, g, d, t, os⟩ := s
  have L0 := I.type (M := model prog w)
  have L1 := looks_findIn (M := model prog w) X hga
  have L2 := looks_findIn (M := model prog w) X hgt
  have L3 := looks_find (M := model prog w) X I hf
  have sub : Looks (model prog w) hp (isInstance (.ref x) (.type "BaseException")) true := L0.andThen (looks_subIn X hsub)
  have hx0 : (false && onTheHeap (Value.builtin "BaseException.__getattribute__")) = false := rfl
  have hx2 : (Value.builtin "BaseException.__getattribute__" == Value.builtin "object.__getattribute__") = false := by decide +kernel
  have hx1 : (onTheHeap (Value.ref D) && Value.builtin "BaseException.__getattribute__" == Value.builtin "object.__getattribute__") = false := by rw [hx2]; rfl
  unfold getAttr? getAttrBy? getAttrBy
  refine wpAny_bind (wpAny_mkText (wpAny_bind (wpAny_attempt (wpAny_holding (wpAny_bind (L0.at (wpAny_bind (L1.at ?_))))))))
  show wpAny _ _ (if (onTheHeap (Value.ref D) && Value.builtin "BaseException.__getattribute__" == Value.builtin "object.__getattribute__") = true then _ else _) _ _ _
  rw [hx1, if_neg Bool.false_ne_true]
  unfold getAttrByItsOwn hookBefore
  refine wpAny_bind ?_
  rw [if_pos (show onTheHeap (Value.ref D) = true from rfl)]
  refine L2.at ?_
  refine wpAny_bind (wpAny_attempt (wpAny_holding ?_))
  unfold callGetattribute
  rw [hx0, if_neg Bool.false_ne_true]
  unfold boundAndCalled
  rw [PySem.F.excAttr_ValueError.ga.bind (.ref x)]
  refine wpAny_bind (wpAny_pure ?_)
  show wpAny _ _ (call (.builtin "BaseException.__getattribute__") [.ref x, .str "__class__" t]) _ _ _
  refine wpAny_call (codeAny_call_builtin PySem.F.excAttr_ValueError.ga.plain PySem.F.entry_bexc_ga ?_)
  refine @check_slot (model prog w) _ _ ⟨hp, g, d, t + 1, os⟩ "BaseException.__getattribute__" "BaseException" "__getattribute__" (.ref x) [.str "__class__" t] [] _ (by decide +kernel) (by decide +kernel) sub (PySem.F.args_bexc_ga (.ref x) (.str "__class__" t)) ?_
  unfold Builtin.«object.__getattribute__»
  refine wpAny_bind (wpAny_of_eq (a := ((Value.ref x : Value), [Value.str "__class__" t])) (by first | rfl | (simp only [slotArgs]; rfl)) ?_)
  refine wpAny_bind (wpAny_pure (wpAny_bind (L0.at (wpAny_bind (L3.at ?_)))))
  show wpAny _ _ (holding [Value.builtin "object.__class__"] (call (.builtin "getset_descriptor.__get__") [.builtin "object.__class__", .ref x, .ref D]) >>= ret) _ _ _
  refine wpAny_bind (wpAny_holding (wpAny_call (class_get (s := ⟨hp, g, d, t + 1, os⟩) (ox := ox) (od := od) X I hm ?_)))
  refine wpAny_pure ?_
  show wpAny _ _ (handedOut (.ref D)) _ _ _
  rw [handedOut_of (v := .ref D) rfl]
  first
    | exact wpAny_pure (wpAny_pure h)
    | exact wpAny_pure h
    | exact wpAny_pure (wpAny_bind (wpAny_pure (wpAny_pure h)))
theorem kitxO (C : ExcC K D) : KitX K (.ref x) (.ref D) (fun h => ∃ ox od, InstAt h x ox D od) where
  ty := fun _ _ _ ⟨_, _, I⟩ => I.type
  it := fun _ _ X _ => by
    obtain ⟨cdD, hcD, _⟩ := any_some C.hd
    unfold clsIn at hcD
    split at hcD
    · rename_i c' d' cd' sl' ho
      intro A' Q' E' s' k q
      unfold isType loadHead
      exact wpAny_bind (wpAny_loadPart (k _ _ (X _ _ ho)) (wpAny_pure q))
    · cases hcD
  ne := fun h tp dd its n sl X htp => by
    obtain ⟨cdD, hcD, _⟩ := any_some C.hd
    refine Bool.eq_false_iff.mpr fun q => ?_
    have e : D = tp := Value.ref.inj (beq_iff_eq.mp q)
    subst e
    unfold clsIn at hcD
    split at hcD
    · rename_i c' d' cd' sl' ho
      have z := (X _ _ ho).symm.trans htp
      cases z
    · cases hcD
  ca := fun X ⟨_, _, I⟩ k => kin_classO C X I k
end
section
variable {X : Cx}
theorem ErrAt.inst {pins : List (Addr × Obj)} {σ : L2.St} {H : Hp} {s : Shared} {a C : Addr} {fs : List (Str × V)} (I : Inv X pins σ H s) (e : ErrAt H a C fs) : ∃ ox od, PySem.W.InstAt s.heap a ox C od := by
  cases e with
  | no h =>
    obtain ⟨t, ho⟩ := exo_at I.hok h
    exact ⟨_, none, ho, rfl, rfl, trivial⟩
  | is d fs h hd =>
    obtain ⟨t, ho⟩ := exo_at I.hok h
    obtain ⟨mA, ⟨od, es, ep, hod, _⟩, _⟩ := exd_at I.hok hd
    exact ⟨_, some od, ho, rfl, rfl, hod⟩
/-- isinstance(e, c), e an exception that is held as a value -/
def rIsX (K : PySem.W.Frag) : List V → Hp → VK → Prop := fun xs H Q => ∃ (a C : Addr) (fs : List (Str × V)) (c : V) (cv : Value) (b : Bool), xs = [.ref a, c] ∧ ErrAt H a C fs ∧ ExcC K C ∧ (∀ u, L2.RelV c u → u = cv) ∧ PySem.W.kitOne K (.ref C) cv = some b ∧ Q (.bl b) H
theorem call_isX : CallR X (.builtin "isinstance") (rIsX X.K) := by
  intro pins s σ H xs us Q I r h
  obtain ⟨a, C, fs, c, cv, b, rfl, ea, ec, hcv, e, q⟩ := h
  cases r with
  | cons rx rr =>
    cases rr with
    | cons rt rr =>
      cases rr
      cases rx
      have ecv := hcv _ rt
      subst ecv
      exact PySem.W.kia_one (kitxO ec) I.kIn (ea.inst I) e (fun z => nomatch z) fun tk => ⟨.bl b, H, I.kept (t' := tk) fun _ _ z => z, rfl, q⟩
/-- e.f, e an exception that is held as a value -/
def tExf (K : PySem.W.Frag) (n : Str) (te : TE) : TE := fun σ H Q => te σ H fun x H1 => ∃ (a C : Addr) (fs : List (Str × V)) (v : V), x = .ref a ∧ ErrAt H1 a C fs ∧ XfC K C ∧ PySem.W.findIn K (.ref C) n = some none ∧ fs.lookup n = some v ∧ Q v H1
theorem pe_exf {e : Expr} {te : TE} {pos : Pos} {n : Str} (he : PE X e te) (hb : attributeBase e n X.env (eval e X.env) = eval e X.env := by rfl) : PE X (.Attribute e n pos) (tExf X.K n te) := by
  refine ⟨fun pins s σ H Q I h => ?_⟩
  refine attr_of hb (thn (he.run pins s σ H _ I h) fun u s1 hh => ?_)
  obtain ⟨x, H1, I1, rx, a, C, fs, v, ex, ea, T, hno, l, q⟩ := hh
  subst ex
  obtain rfl : u = Value.ref a := rx
  cases ea with
  | no h => cases l
  | is d fs h hd =>
    obtain ⟨t, ho⟩ := exo_at I1.hok h
    obtain ⟨mA, hns, hr⟩ := exd_at I1.hok hd
    obtain ⟨od, hod, hl⟩ := lookIn_ns hns
    obtain ⟨u, hu, ru⟩ := RelO.some_of (v := v) (o := mA n) (by rw [← l]; exact hr n)
    have J : PySem.W.InstAt s1.heap a _ C (some od) := ⟨ho, rfl, rfl, hod⟩
    exact HandSPX.exc_get I1.kIn J T.ga T.gg T.exC (PySem.W.findObj_own T.hdC hno rfl (by rw [hl, hu])) (handed_of ru) ⟨v, H1, I1.tok _, ru, q⟩
/-! ### the text of a flat value -/
inductive ReprV : V → Str → Prop where
  | int (i : Int) (h : i.natAbs.log2 < 1920) : ReprV (.int i) (Str.ofString (toString i))
  | str (x : Str) (h : (PySem.reprText x).length ≤ sizeLine) : ReprV (.str x) (PySem.reprText x)
  | bl (b : Bool) : ReprV (.bl b) (if b then "True" else "False")
  | non : ReprV .non "None"
def rReprF : List V → Hp → VK → Prop := fun xs H Q => ∃ v t, xs = [v] ∧ ReprV v t ∧ Q (.str t) H
theorem call_reprF : CallR X (.builtin "repr") rReprF := by
  intro pins s σ H xs us Q I r h
  obtain ⟨v, t, rfl, rv, q⟩ := h
  obtain ⟨u, rfl, hu⟩ := vals1 r
  cases rv with
  | int i hz =>
    obtain ⟨tk, rfl⟩ := hu
    exact PySem.P.repr_of_int hz ⟨.str _, H, I.tok _, ⟨_, rfl⟩, q⟩
  | str x hz =>
    obtain ⟨tk, rfl⟩ := hu
    exact PySem.P.repr_of_str ⟨.str _, H, I.tok _, ⟨_, rfl⟩, q⟩ hz
  | bl b =>
    obtain rfl : u = Value.bool b := hu
    exact PySem.P.repr_of_bool ⟨.str _, H, I.tok _, ⟨_, rfl⟩, q⟩
  | non =>
    obtain rfl : u = Value.none := hu
    exact PySem.P.repr_of_none ⟨.str _, H, I.tok _, ⟨_, rfl⟩, q⟩
end
end Od
end
section
set_option Elab.async false
set_option linter.all false
set_option maxRecDepth 100000
set_option maxHeartbeats 2000000
set_option autoImplicit false
/-! the head: facts by places of one's own -/
namespace Od
open PySem PySem.Spec PyProof.Rows L2 He
/-- a def: where it stands, its name, its qualified name, its statement -/
structure DefE where
  ad : PySem.W.Frag → Addr
  name : Str
  qual : Str
  st : Stmt
  sup : Option Str := none
  dfl : Bool := false
/-- a def of the module, a method of a class, a classmethod -/
def dG (x : Str) (st : Stmt) : DefE := ⟨fun K => ga K x, x, x, st, none, false⟩
def dM (c m : Str) (q : Str) (st : Stmt) : DefE := ⟨fun K => ma K (ga K c) m, m, q, st, none, false⟩
/-- .. whose last parameter has the default None -/
def dMD (c m : Str) (q : Str) (st : Stmt) : DefE := ⟨fun K => ma K (ga K c) m, m, q, st, none, true⟩
def cmF (K : PySem.W.Frag) (c m : Str) : Addr := match PySem.W.recIn K (ma K (ga K c) m) "classmethod" with
  | some (.ref g :: _) => g
  | _ => 0
def dC (c m : Str) (q : Str) (st : Stmt) : DefE := ⟨fun K => cmF K c m, m, q, st, none, false⟩
/-- the __init__ of an own exception class, which keeps the class in a cell -/
def dS (c : Str) (q : Str) (st : Stmt) : DefE := ⟨fun K => ma K (ga K c) "__init__", "__init__", q, st, some c, false⟩
def fnA (K : PySem.W.Frag) (d : DefE) : FnW := match K.lookup (d.ad K) with
  | some ⟨_, _, .func fd, _⟩ => some (fd.name, fd.qualname, fd.params, fd.body, fd.scope, fd.globals, (match d.sup with | none => fd.closure | some _ => []), fd.builtins)
  | _ => none
def isNone : Value → Bool
  | .none => true
  | _ => false
theorem isNone_ok {v : Value} (h : isNone v = true) : v = .none := by
  cases v with
  | none => rfl
  | _ => cases h
def dflB (K : PySem.W.Frag) : Value → Bool
  | .ref T => (match K.lookup T with
    | some ⟨_, _, .seq its _, _⟩ => (match its.toList with
      | [v] => isNone v
      | _ => false)
    | _ => false)
  | _ => false
theorem dflB_ok {K : PySem.W.Frag} {v : Value} (h : dflB K v = true) : ∃ (T : Addr) (o : Obj) (n : Nat), v = .ref T ∧ K.lookup T = some o ∧ o.data = .seq [Value.none].toArray n := by
  unfold dflB at h
  split at h
  · rename_i T
    split at h
    · rename_i c d its n sl q
      split at h
      · rename_i u q2
        rw [isNone_ok h] at q2
        refine ⟨T, _, n, rfl, q, ?_⟩
        show Data.seq its n = _
        rw [← q2, Array.toArray_toList]
      · cases h
    · cases h
  · cases h
def DefE.val (d : DefE) : FnW := some (d.name, d.qual, C8.fnArgs d.st, .stmts (C8.fnBody d.st), C8.fnScope d.st, mainGlobals, [], builtinsNs)
/-- the cell that holds the class, the code object that names its file -/
def cellB (K : PySem.W.Frag) (fd : FuncData) (C : Addr) : Bool := match fd.closure, fd.code with
  | [(n, cc)], .ref cd => decide (n = "__class__") && ((match K.lookup cc with
    | some ⟨_, _, .cell (some (.ref D)), _⟩ => decide (D = C)
    | _ => false) && (match K.lookup cd with
    | some ⟨_, _, .fields vs, _⟩ => (match (vs[2]? : Option Value) with
      | some (.str file _) => decide (file = "/claim/cut.py")
      | _ => false)
    | _ => false))
  | _, _ => false
def DefE.ok (K : PySem.W.Frag) (d : DefE) : Bool := PySem.W.keepIn K (.ref (d.ad K)) && (match K.lookup (d.ad K) with
  | some ⟨_, _, .func fd, _⟩ => PySem.W.codeIn K fd.code d.qual && ((if d.dfl = true then dflB K fd.defaults else isNone fd.defaults) && (match d.sup with
    | none => true
    | some c => cellB K fd (ga K c)))
  | _ => false)
theorem DefE.sup_ {K : PySem.W.Frag} {d : DefE} {cl : Str} (hs : d.sup = some cl) (hdf : d.dfl = false) (hn : d.name = "__init__") (e : fnA K d = d.val) (c : d.ok K = true) : ∃ fd, SupFun K "/claim/cut.py" (ga K cl) d.qual (C8.fnArgs d.st) (C8.fnBody d.st) (C8.fnScope d.st) (d.ad K) fd := by
  obtain ⟨kp, c2⟩ := ba c
  unfold fnA at e
  cases q : K.lookup (d.ad K) with
  | none =>
    rw [q] at c2
    cases c2
  | some o =>
    obtain ⟨oc, od, dt, osl⟩ := o
    rw [q] at c2 e
    cases dt with
    | func fd =>
      rw [hs] at c2 e
      rw [hdf] at c2
      obtain ⟨n1, n2, n3, n4, n5, n6, n7, n8, n9, n10, n11, n12, n13, n14, n15⟩ := fd
      have e2 : (some (n1, n2, n3, n4, n5, n6, [], n15) : FnW) = some (d.name, d.qual, C8.fnArgs d.st, .stmts (C8.fnBody d.st), C8.fnScope d.st, mainGlobals, [], builtinsNs) := e
      simp only [Option.some.injEq, Prod.mk.injEq, true_and] at e2
      obtain ⟨h1, h2, h3, h4, h5, h6, h8⟩ := e2
      subst h1 h2 h3 h4 h5 h6 h8
      obtain ⟨k1, k⟩ := ba (show (PySem.W.codeIn K n13 d.qual && (isNone n8 && cellB K ⟨d.name, d.qual, C8.fnArgs d.st, .stmts (C8.fnBody d.st), C8.fnScope d.st, mainGlobals, n7, n8, n9, n10, n11, n12, n13, n14, builtinsNs⟩ (ga K cl))) = true from c2)
      obtain ⟨k2, k3⟩ := ba k
      unfold cellB at k3
      dsimp only at k3
      split at k3
      · rename_i n cc cd
        obtain ⟨k4, k5⟩ := ba k3
        obtain ⟨k6, k7⟩ := ba k5
        split at k6
        · rename_i ccl ccd D ccs q2
          split at k7
          · rename_i kcl kcd vs kcs q3
            split at k7
            · rename_i file tf q4
              have z1 := of_decide_eq_true k4
              have z2 := of_decide_eq_true k6
              have z3 := of_decide_eq_true k7
              subst z1 z2 z3
              have z4 := isNone_ok k2
              subst z4
              refine ⟨_, oc, od, n10, n11, n14, osl, cc, ccl, ccd, ccs, cd, kcl, kcd, kcs, vs, tf, n9, n12, ?_, q, k1, q2, q3, q4⟩
              rw [hn]
            · cases k7
          · cases k7
        · cases k6
      · cases k3
    | _ => cases c2
theorem DefE.fun_ {K : PySem.W.Frag} {d : DefE} (hs : d.sup = none) (hdf : d.dfl = false) (e : fnA K d = d.val) (c : d.ok K = true) : ∃ fd, C8.Fun K d.name d.qual d.st (d.ad K) fd ∧ fd.defaults = .none ∧ PySem.W.keepIn K (.ref (d.ad K)) = true := by
  obtain ⟨kp, c2⟩ := ba c
  unfold fnA at e
  cases q : K.lookup (d.ad K) with
  | none =>
    rw [q] at c2
    cases c2
  | some o =>
    obtain ⟨oc, od, dt, osl⟩ := o
    rw [q] at c2 e
    cases dt with
    | func fd =>
      rw [hs] at c2 e
      rw [hdf] at c2
      obtain ⟨n1, n2, n3, n4, n5, n6, n7, n8, n9, n10, n11, n12, n13, n14, n15⟩ := fd
      have e2 : (some (n1, n2, n3, n4, n5, n6, n7, n15) : FnW) = some (d.name, d.qual, C8.fnArgs d.st, .stmts (C8.fnBody d.st), C8.fnScope d.st, mainGlobals, [], builtinsNs) := e
      simp only [Option.some.injEq, Prod.mk.injEq] at e2
      obtain ⟨h1, h2, h3, h4, h5, h6, h7, h8⟩ := e2
      subst h1 h2 h3 h4 h5 h6 h7 h8
      obtain ⟨k1, k⟩ := ba (show (PySem.W.codeIn K n13 d.qual && (isNone n8 && true)) = true from c2)
      obtain ⟨k2, _⟩ := ba k
      exact ⟨_, ⟨oc, od, n8, n9, n10, n11, n12, n13, n14, osl, rfl, q, k1⟩, isNone_ok k2, kp⟩
    | _ => cases c2
theorem DefE.dfl_ {K : PySem.W.Frag} {d : DefE} (hs : d.sup = none) (hdf : d.dfl = true) (e : fnA K d = d.val) (c : d.ok K = true) : ∃ fd, C8.Fun K d.name d.qual d.st (d.ad K) fd ∧ (∃ (T : Addr) (o : Obj) (n : Nat), fd.defaults = .ref T ∧ K.lookup T = some o ∧ o.data = .seq [Value.none].toArray n) ∧ PySem.W.keepIn K (.ref (d.ad K)) = true := by
  obtain ⟨kp, c2⟩ := ba c
  unfold fnA at e
  cases q : K.lookup (d.ad K) with
  | none =>
    rw [q] at c2
    cases c2
  | some o =>
    obtain ⟨oc, od, dt, osl⟩ := o
    rw [q] at c2 e
    cases dt with
    | func fd =>
      rw [hs] at c2 e
      rw [hdf] at c2
      obtain ⟨n1, n2, n3, n4, n5, n6, n7, n8, n9, n10, n11, n12, n13, n14, n15⟩ := fd
      have e2 : (some (n1, n2, n3, n4, n5, n6, n7, n15) : FnW) = some (d.name, d.qual, C8.fnArgs d.st, .stmts (C8.fnBody d.st), C8.fnScope d.st, mainGlobals, [], builtinsNs) := e
      simp only [Option.some.injEq, Prod.mk.injEq] at e2
      obtain ⟨h1, h2, h3, h4, h5, h6, h7, h8⟩ := e2
      subst h1 h2 h3 h4 h5 h6 h7 h8
      obtain ⟨k1, k⟩ := ba (show (PySem.W.codeIn K n13 d.qual && (dflB K n8 && true)) = true from c2)
      obtain ⟨k2, _⟩ := ba k
      exact ⟨_, ⟨oc, od, n8, n9, n10, n11, n12, n13, n14, osl, rfl, q, k1⟩, dflB_ok k2, kp⟩
    | _ => cases c2
def asX0 (g : Addr → Option Obj) : Nat → List Addr
  | 0 => [mainGlobals, 2]
  | n + 1 => growD g (asX0 g n)
/-- .. and the cells of the functions -/
def asX (g : Addr → Option Obj) (n : Nat) : List Addr := asX0 g n ++ (asX0 g n).flatMap fun a => match g a with
  | some ⟨_, _, .func fd, _⟩ => fd.closure.map (·.2) ++ (match fd.defaults with
    | .ref T => [T]
    | _ => [])
  | _ => []
abbrev AlE : Type := Bool × List FnW
def obsE (mo : PySem.W.Frag → Bool) (fn : List DefE) (K : PySem.W.Frag) : AlE := (mo K && fn.all fun d => d.ok K, fn.map fun d => fnA K d)
def valE (fn : List DefE) : AlE := (true, fn.map DefE.val)
def obsEG (n : Nat) (mo : PySem.W.Frag → Bool) (fn : List DefE) (g : Addr → Option Obj) : AlE := obsE mo fn (frG g (asX g n))
def hookE (n : Nat) (mo : PySem.W.Frag → Bool) (fn : List DefE) : PySem.W.Hook where
  α := AlE
  obs := fun s => obsEG n mo fn s.heap.get?
  val := fun _ => valE fn
  says := fun _ h => ∃ K : PySem.W.Frag, K.In h ∧ obsE mo fn K = valE fn
  of := fun _ _ e => ⟨_, frG_in, e⟩
  keeps := fun _ _ _ ⟨K, hK, c⟩ k => ⟨K, PySem.W.Frag.In.keeps hK k, c⟩
theorem obsEG_eq {n : Nat} {mo : PySem.W.Frag → Bool} {fn : List DefE} {g : Addr → Option Obj} {s : Shared} (h : ∀ a, g a = s.heap.get? a) : obsEG n mo fn g = (hookE n mo fn).obs s := by
  have e : g = s.heap.get? := funext h
  rw [e] <;> rfl
section
variable {mo : PySem.W.Frag → Bool} {fn : List DefE} {K : PySem.W.Frag}
theorem saysE_mo (c : obsE mo fn K = valE fn) : mo K = true := (ba (show (mo K && fn.all fun d => d.ok K) = true from congrArg (fun z : AlE => z.1) c)).1
theorem saysE_sup (c : obsE mo fn K = valE fn) (i : Nat) {d : DefE} {cl : Str} (h : fn[i]? = some d := by rfl) (hs : d.sup = some cl := by rfl) (hdn : d.dfl = false := by rfl) (hn : d.name = "__init__" := by rfl) : ∃ fd, SupFun K "/claim/cut.py" (ga K cl) d.qual (C8.fnArgs d.st) (C8.fnBody d.st) (C8.fnScope d.st) (d.ad K) fd := by
  have c2 := (ba (show (mo K && fn.all fun d => d.ok K) = true from congrArg (fun z : AlE => z.1) c)).2
  have e : fn.map (fun d => fnA K d) = fn.map DefE.val := congrArg (fun z : AlE => z.2) c
  have e2 : (fn.map fun d => fnA K d)[i]? = (fn.map DefE.val)[i]? := by rw [e]
  rw [List.getElem?_map, List.getElem?_map, h] at e2
  exact DefE.sup_ hs hdn hn (Option.some.inj e2) (List.all_eq_true.mp c2 d (List.mem_of_getElem? h))
theorem saysE_dfl (c : obsE mo fn K = valE fn) (i : Nat) {d : DefE} (h : fn[i]? = some d := by rfl) (hsn : d.sup = none := by rfl) (hdn : d.dfl = true := by rfl) : ∃ fd, C8.Fun K d.name d.qual d.st (d.ad K) fd ∧ (∃ (T : Addr) (o : Obj) (n : Nat), fd.defaults = .ref T ∧ K.lookup T = some o ∧ o.data = .seq [Value.none].toArray n) ∧ PySem.W.keepIn K (.ref (d.ad K)) = true := by
  have c2 := (ba (show (mo K && fn.all fun d => d.ok K) = true from congrArg (fun z : AlE => z.1) c)).2
  have e : fn.map (fun d => fnA K d) = fn.map DefE.val := congrArg (fun z : AlE => z.2) c
  have e2 : (fn.map fun d => fnA K d)[i]? = (fn.map DefE.val)[i]? := by rw [e]
  rw [List.getElem?_map, List.getElem?_map, h] at e2
  exact DefE.dfl_ hsn hdn (Option.some.inj e2) (List.all_eq_true.mp c2 d (List.mem_of_getElem? h))
theorem saysE_def (c : obsE mo fn K = valE fn) (i : Nat) {d : DefE} (h : fn[i]? = some d := by rfl) (hsn : d.sup = none := by rfl) (hdn : d.dfl = false := by rfl) : ∃ fd, C8.Fun K d.name d.qual d.st (d.ad K) fd ∧ fd.defaults = .none ∧ PySem.W.keepIn K (.ref (d.ad K)) = true := by
  have c2 := (ba (show (mo K && fn.all fun d => d.ok K) = true from congrArg (fun z : AlE => z.1) c)).2
  have e : fn.map (fun d => fnA K d) = fn.map DefE.val := congrArg (fun z : AlE => z.2) c
  have e2 : (fn.map fun d => fnA K d)[i]? = (fn.map DefE.val)[i]? := by rw [e]
  rw [List.getElem?_map, List.getElem?_map, h] at e2
  exact DefE.fun_ hsn hdn (Option.some.inj e2) (List.all_eq_true.mp c2 d (List.mem_of_getElem? h))
end
/-! ### what is read off -/
/-- the Bool facts: plain ones by place, and one more -/
def moF (fa : List Fa) (ex : PySem.W.Frag → List Bool) (K : PySem.W.Frag) : Bool := (fa.all fun f => f.ok K) && (ex K).all id
theorem moF_fact {fa : List Fa} {ex : PySem.W.Frag → List Bool} {K : PySem.W.Frag} (h : moF fa ex K = true) (i : Nat) {f : Fa} (e : fa[i]? = some f := by rfl) : f.ok K = true :=
  List.all_eq_true.mp (ba h).1 f (List.mem_of_getElem? e)
theorem moF_ex {fa : List Fa} {ex : PySem.W.Frag → List Bool} {K : PySem.W.Frag} (h : moF fa ex K = true) (i : Nat) {b : Bool} (e : (ex K)[i]? = some b := by rfl) : b = true :=
  List.all_eq_true.mp (ba h).2 b (List.mem_of_getElem? e)
section
variable {K : PySem.W.Frag} {h : Heap} {mg : Str → Option Value}
abbrev BindQ (x qual : Str) (st : Stmt) (ps : List Str) : Prop := ∀ (kV doc pm : Value) (an : Option Addr) (cdv ct : Value) (us : List Value), us.length = ps.length → bindArgs (PySem.W.fnOf x qual (C8.fnArgs st) (C8.fnBody st) (C8.fnScope st) .none kV doc pm an cdv ct) ⟨us, []⟩ = pure (ps.zip us)
theorem defOf_ (X : K.In h) (G : h.Ns mainGlobals mg) {x : Str} {st : Stmt} {ps : List Str} (c1 : (Fa.glo x).ok K = true) (c2 : ∃ fd, C8.Fun K (dG x st).name (dG x st).qual (dG x st).st ((dG x st).ad K) fd ∧ fd.defaults = .none ∧ PySem.W.keepIn K (.ref ((dG x st).ad K)) = true) (hb : BindQ x x st ps) : DefOf K mg x st ps := by
  obtain ⟨fd, F, df, kp⟩ := c2
  exact ⟨_, fd, ⟨F, glo_ok X G c1, kp⟩, C8.Fun.binds F df hb⟩
theorem metOf_ {c m q : Str} {st : Stmt} {ps : List Str} (c1 : (Fa.meth c m).ok K = true) (c2 : ∃ fd, C8.Fun K (dM c m q st).name (dM c m q st).qual (dM c m q st).st ((dM c m q st).ad K) fd ∧ fd.defaults = .none ∧ PySem.W.keepIn K (.ref ((dM c m q st).ad K)) = true) (hb : BindQ m q st ps) : MetOf K (ga K c) m q st ps := by
  obtain ⟨fd, F, df, kp⟩ := c2
  exact ⟨_, fd, meth_ok c1, F, C8.Fun.binds F df hb⟩
theorem makOf_ {c q : Str} {st : Stmt} {ps : List Str} (c1 : (Fa.mkr c).ok K = true) (c2 : ∃ fd, C8.Fun K (dM c "__init__" q st).name (dM c "__init__" q st).qual (dM c "__init__" q st).st ((dM c "__init__" q st).ad K) fd ∧ fd.defaults = .none ∧ PySem.W.keepIn K (.ref ((dM c "__init__" q st).ad K)) = true) (hb : BindQ "__init__" q st ps) : MakOf K (ga K c) q st ps := by
  obtain ⟨fd, F, df, kp⟩ := c2
  exact ⟨_, fd, mkr_ok c1, F, C8.Fun.binds F df hb⟩
/-- a class is read as its type reads it -/
def crdB (K : PySem.W.Frag) (c : Str) : Bool := PySem.W.readsIn K (ga K c) (.type "type") && eqO (PySem.W.specialIn K (.ref (ga K c)) "__getattribute__") (some (some (.builtin "type.__getattribute__")))
theorem crd_ok {c : Str} (e : crdB K c = true) : ClX.CRead K (ga K c) (.type "type") := by
  obtain ⟨e1, e2⟩ := ba e
  exact ⟨e1, eqO_ok e2⟩
/-- a classmethod of a class -/
def clmB (K : PySem.W.Frag) (c m : Str) : Bool := (match PySem.W.findCls K (.ref (ga K c)) (.type "type") m with
  | some (.get (.builtin s) (.ref p) .none (.ref d)) => decide (s = "classmethod.__get__") && (decide (p = ma K (ga K c) m) && decide (d = ga K c))
  | _ => false) && ((match PySem.W.recIn K (ma K (ga K c) m) "classmethod" with
  | some (.ref _ :: _) => true
  | _ => false) && PySem.W.fnIn K (cmF K c m))
theorem clm_ok {c m : Str} (e : clmB K c m = true) : ClX.CMet K (ga K c) (.type "type") m (ma K (ga K c) m) (cmF K c m) := by
  obtain ⟨e1, e⟩ := ba e
  obtain ⟨e2, e3⟩ := ba e
  refine ⟨?_, ?_, e3⟩
  · split at e1
    · rename_i s p d q
      obtain ⟨h1, h⟩ := ba e1
      obtain ⟨h2, h3⟩ := ba h
      rw [q, of_decide_eq_true h1, of_decide_eq_true h2, of_decide_eq_true h3]
    · cases e1
  · unfold cmF
    split at e2
    · rename_i g rest q
      rw [q]
      exact ⟨rest, rfl⟩
    · cases e2
theorem clmOf_ {c m q : Str} {st : Stmt} {ps : List Str} (c0 : crdB K c = true) (c1 : clmB K c m = true) (c2 : ∃ fd, C8.Fun K (dC c m q st).name (dC c m q st).qual (dC c m q st).st ((dC c m q st).ad K) fd ∧ fd.defaults = .none ∧ PySem.W.keepIn K (.ref ((dC c m q st).ad K)) = true) (hb : BindQ m q st ps) : ClmOf K (ga K c) m q st ps := by
  obtain ⟨fd, F, df, kp⟩ := c2
  exact ⟨_, _, _, fd, crd_ok c0, clm_ok c1, F, C8.Fun.binds F df hb⟩
/-! ### own exception classes -/
def oexB (K : PySem.W.Frag) (C : Addr) : Bool := (match K.lookup C with
  | some ⟨.type "type", _, .cls cd, sl⟩ => (match cd.mro, sl.toList with
    | .ref C' :: bm, [_, _, _, _, some (.builtin n), _] => decide (C' = C) && (decide (n = "ValueError.__new__") && (!cd.hasDel && (cd.hasDict && PySem.HandSPX.refsVE bm)))
    | _, _ => false)
  | _ => false) && (eqO (PySem.W.findIn K (.ref C) "__setattr__") (some (some (.builtin "object.__setattr__"))) && (decide (PySem.W.subIn K (.ref C) (.type "BaseException") = some true) && (decide (PySem.W.typeIn K (.ref C) = some (.type "type")) && PySem.W.keepIn K (.ref C))))
theorem oex_ok {C : Addr} (q : oexB K C = true) : OexC K C := by
  obtain ⟨q, q2⟩ := ba q
  obtain ⟨q3, q2⟩ := ba q2
  obtain ⟨q4, q2⟩ := ba q2
  obtain ⟨q5, q6⟩ := ba q2
  refine ⟨?_, eqO_ok q3, of_decide_eq_true q4, of_decide_eq_true q5, q6⟩
  split at q
  · rename_i dd cd sl ho
    split at q
    · rename_i C' bm k0 k1 k2 k3 n k5 hm hs
      simp only [Bool.and_eq_true, decide_eq_true_eq, Bool.not_eq_true'] at q
      obtain ⟨rfl, rfl, hdel, hdict, ht⟩ := q
      obtain ⟨nm, bs, mro, ns, qn, hd, sn, sub, ab, col, del⟩ := cd
      dsimp only at hm hdel hdict
      subst hm hdel hdict
      have hsl : sl = #[k0, k1, k2, k3, some (.builtin "ValueError.__new__"), k5] := by
        obtain ⟨l⟩ := sl
        simp only at hs
        rw [hs]
      subst hsl
      exact ⟨nm, qn, ns, bs, bm, sn, sub, ab, col, dd, k0, k1, k2, k3, k5, ho, ht⟩
    · cases q
  · cases q
def supB (K : PySem.W.Frag) (c : Str) : Bool := oexB K (ga K c) && (xfB K (ga K c) && (eqO (PySem.W.findIn K (.ref (ga K c)) "__class__") (some (some (.builtin "object.__class__"))) && (eqO (PySem.W.specialIn K (.builtin "object.__class__") "__get__") (some (some (.builtin "getset_descriptor.__get__"))) &&
  (decide (PySem.W.takesIn K (.builtin "object.__class__") = some true) && (decide (PySem.W.mroIn K (ga K c) (.type "object") = some true) && (decide (PySem.W.mroIn K (ga K c) (.ref (ga K c)) = some true) && (eqO (PySem.W.ks_superIn K (ga K c) (ga K c) "__init__") (some (some (.builtin "ValueError.__init__"))) &&
  (decide (PySem.W.subIn K (.ref (ga K c)) (.type "ValueError") = some true) && eqO (PySem.W.nsIn K cStatics "thirdparty.any") (some none)))))))))
theorem sup_ok {c : Str} (q : supB K c = true) : SupC K (ga K c) := by
  obtain ⟨q1, q⟩ := ba q
  obtain ⟨q2, q⟩ := ba q
  obtain ⟨q3, q⟩ := ba q
  obtain ⟨q4, q⟩ := ba q
  obtain ⟨q5, q⟩ := ba q
  obtain ⟨q6, q⟩ := ba q
  obtain ⟨q7, q⟩ := ba q
  obtain ⟨q8, q⟩ := ba q
  obtain ⟨q9, q10⟩ := ba q
  have x := xfB_ok q2
  exact ⟨oex_ok q1, x, ⟨x.ga, x.gg, x.exC, x.hdC, eqO_ok q3, eqO_ok q4, of_decide_eq_true q5, of_decide_eq_true q6⟩, of_decide_eq_true q7, eqO_ok q8, of_decide_eq_true q9, eqO_ok q10⟩
abbrev BindS (qual : Str) (st : Stmt) (ps : List Str) : Prop := ∀ (kV doc pm : Value) (an : Option Addr) (cdv ct : Value) (cc : Addr) (us : List Value), us.length = ps.length → bindArgs (PySem.W.fnX "__init__" qual (C8.fnArgs st) (C8.fnBody st) (C8.fnScope st) [("__class__", cc)] .none kV doc pm an cdv ct) ⟨us, []⟩ = pure (ps.zip us)
def initB (K : PySem.W.Frag) (c : Str) : Bool := eqO (PySem.W.findIn K (.ref (ga K c)) "__init__") (some (some (.ref (ma K (ga K c) "__init__")))) && decide (PySem.W.typeIn K (.ref (ma K (ga K c) "__init__")) = some (.type "function"))
theorem supOf_ (X : K.In h) (G : h.Ns mainGlobals mg) {c q : Str} {st : Stmt} {ps : List Str} (c0 : supB K c = true) (c1 : (Fa.glo c).ok K = true) (ci : initB K c = true) (c2 : ∃ fd, SupFun K "/claim/cut.py" (ga K c) (dS c q st).qual (C8.fnArgs (dS c q st).st) (C8.fnBody (dS c q st).st) (C8.fnScope (dS c q st).st) ((dS c q st).ad K) fd) (hb : BindS q st ps) : SupOf K mg c (ga K c) q st ps := by
  obtain ⟨fd, F⟩ := c2
  obtain ⟨i1, i2⟩ := ba ci
  refine ⟨sup_ok c0, glo_ok X G c1, _, fd, eqO_ok i1, of_decide_eq_true i2, F, ?_⟩
  obtain ⟨oc, od, doc, pm, ct, osl, cc, ccl, ccd, ccs, cd, kcl, kcd, kcs, vss, tf, kV, an, rfl, _⟩ := F.ex
  exact .all fun us hl => hb kV doc pm an (.ref cd) ct cc us hl
theorem strG (X : K.In h) (G : h.Ns mainGlobals mg) {x z : Str} (c : (Fa.str x z).ok K = true) : ∃ u, mg x = some u ∧ L2.RelV (.str z) u := by
  obtain ⟨t, e⟩ := str_ok X G c
  exact ⟨_, e, t, rfl⟩
theorem intG (X : K.In h) (G : h.Ns mainGlobals mg) {x : Str} {i : Int} (c : (Fa.int x i).ok K = true) : ∃ u, mg x = some u ∧ L2.RelV (.int i) u := by
  obtain ⟨t, e⟩ := int_ok X G c
  exact ⟨_, e, t, rfl⟩
end
end Od
end
section
set_option Elab.async false
set_option linter.all false
set_option maxRecDepth 100000
set_option maxHeartbeats 2000000
set_option autoImplicit false
/-! the head of a law whose defs make functions: their code objects' tables are tracked from the start; the law's own frame knows that no text of an object is being made -/
namespace Od
open PySem PySem.Spec PyProof.Rows L2 C8 LamX
/-! ### a def that is called where no text of an object is being made -/
structure FnG (P : Program) (w : World) (K : PySem.W.Frag) (mg : Str → Option Value) (base : Heap) (k : Nat) (f : Addr) (fd : FuncData) (ps : List Str) (sp : Sp) : Prop where
  len : ∀ vs H Q E, sp vs H Q E → vs.length = ps.length
  run : ∀ (A : Around) (outer : List Env) (s : Shared) (H : Hp) (args : Args) (us : List Value) (vs : List V) (Q : VK) (E : XK), A.guards = some [] → Room k A → Env0 P w K mg base A outer s H → BindsTo s fd args (ps.zip us) → Vals vs us → sp vs H Q E →
    codeAny (model P w) A (.call (.ref f) args) (CR C8.CX0 outer P w H s Q E) s
theorem guards_deeper (A : Around) (env : Env) : (A.deeper env).guards = A.guards := by first | rfl | (cases A; simp [Around.deeper])
section
variable {P : Program} {w : World} {K : PySem.W.Frag} {mg : Str → Option Value} {base : Heap}
theorem FnG.of {k : Nat} {f : Addr} {fd : FuncData} {ps : List Str} {sp : Sp} (F : FnOk P w K mg base C8.CX0 k f fd ps sp) : FnG P w K mg base k f fd ps sp :=
  ⟨F.len, fun A outer s H args us vs Q E _ => F.run A outer s H args us vs Q E⟩
theorem fnG {x qual : Str} {st : Stmt} {f : Addr} {fd : FuncData} {N ps : List Str} {k : Nat} {sp : Sp} (F : C8.Fun K x qual st f fd) (S : FnScope N ps (fnScope st)) (len : ∀ vs H Q E, sp vs H Q E → vs.length = ps.length)
    (hbody : ∀ (cdv : Value) (A : Around) (outer : List Env) (s : Shared) (H : Hp) (vs : List V) (Q : VK) (E : XK), (A.deeper (envOfC qual (fnScope st) s.heap.objs.size f cdv)).guards = some [] → Room k (A.deeper (envOfC qual (fnScope st) s.heap.objs.size f cdv)) → sp vs H Q E →
      ∃ t, PSs (cxOf C8.CX0 P w K mg base N qual (fnScope st) f cdv A outer s H E).nox (fnBody st) t ∧ t { nx := fun _ H' => Q .non H', rt := Q } (start N vs) H) : FnG P w K mg base (k + 1) f fd ps sp := by
  obtain ⟨oc, od, dV, kV, doc, pm, an, cdv, ct, osl, rfl, lk, hcd⟩ := F.ex
  refine ⟨len, fun A outer s H args us vs Q E hgd hr e0 hb r hsp => ?_⟩
  have hl := len _ _ _ _ hsp
  have KX : K.In s.heap := e0.mod.kin.keeps fun b o e => (e0.bs b o e).1
  have lim : s.heap.NoLimit := e0.mod.nolimit.keeps fun b o e => (e0.bs b o e).1
  have hkind : ∀ y ∈ ps.zip us, (fnScope st).names.lookup y.1 = some .local ∨ ((fnScope st).names.lookup y.1 = some .cell ∧ ((cellsFrom (s.heap.objs.size + 1) (fnScope st).names []).lookup y.1).isSome = true) := fun ⟨n, v⟩ hy => by
    rcases S.par n (List.of_mem_zip hy).1 with q | q
    · exact .inl q
    · exact .inr ⟨q, PySem.W.cellsFrom_some _ _ _ (.inl q)⟩
  refine codeAny_call_function hr.depth (KX _ _ lk) rfl S.co S.gen rfl (PySem.W.codeRec_of KX hcd) (hb _ _ _ _ ?_)
  refine wpAny_newFunctionEnv_cells S.kind hkind fun env he s1 x => ?_
  subst he
  refine ⟨lim.keeps x.toInCall.keep, codeAny_func ?_⟩
  obtain ⟨t, ht, hq⟩ := hbody cdv A outer s H vs Q E ((guards_deeper _ _).trans hgd) (hr.deeper _) hsp
  have I : Inv (cxOf C8.CX0 P w K mg base N qual (fnScope st) f cdv A outer s H E) [] (start N vs) H s1 := inv_start S hr.hd e0 hl r x
  refine wpAny_mono (ht.nox.run [] s1 (start N vs) H _ I hq) (fun fl s' hs => ?_) fun e s' hs => hs
  have fin : ∀ {σ' : L2.St} {H' : Hp} {v : V} {u : Value}, Inv (cxOf C8.CX0 P w K mg base N qual (fnScope st) f cdv A outer s H E) [] σ' H' s' → L2.RelV v u → Q v H' → CE outer P w H s Q u s' :=
    fun {σ' H' v u} J rv q => ⟨v, H', J.os, J.bare, J.base, J.hok, rv, q⟩
  cases fl with
  | ret u =>
    obtain ⟨v, σ', H', J, rv, q⟩ := hs
    exact fin J rv q
  | next =>
    obtain ⟨σ', H', J, q⟩ := hs
    exact fin (v := V.non) (u := Value.none) J rfl q
  | brk =>
    obtain ⟨_, _, _, q⟩ := hs
    exact q.elim
  | cont =>
    obtain ⟨_, _, _, q⟩ := hs
    exact q.elim
end
/-! ### repr of lists and tuples of numbers, texts, truth values -/
section
structure rRepr (K : PySem.W.Frag) (xs : List V) (H : Hp) (Q : VK) : Prop where
  ex : ∃ a d, xs = [.ref a] ∧ Dp K H (.ref a) d ∧ d.showable = true ∧ d.hasDict = false ∧ d.depth ≤ 60 ∧ d.shown.length ≤ sizeLine ∧ Q (.str d.shown) H
theorem bools_show : ∀ bs : List Bool, PyData.showableAll (bs.map PyData.bool) = true ∧ PyData.hasDictAll (bs.map PyData.bool) = false ∧ PyData.depthAll (bs.map PyData.bool) = 0 ∧ ((PyData.shownAll (bs.map PyData.bool)).map (·.length)).sum ≤ 5 * bs.length ∧ (PyData.shownAll (bs.map PyData.bool)).length = bs.length
  | [] => ⟨rfl, rfl, rfl, by simp [PyData.shownAll], by simp [PyData.shownAll]⟩
  | b :: bs => by
    obtain ⟨h1, h2, h3, h4, h5⟩ := bools_show bs
    have h6 : (PyData.shown (.bool b)).length ≤ 5 := by cases b <;> decide +kernel
    refine ⟨by simp [PyData.showableAll, PyData.showable, h1], by simp [PyData.hasDictAll, PyData.hasDict, h2], by simp [PyData.depthAll, PyData.depth, h3], ?_, by simp [PyData.shownAll, h5]⟩
    simp only [List.map_cons, PyData.shownAll, List.sum_cons, List.length_cons]
    omega
theorem dp_bools {K : PySem.W.Frag} {H : Hp} : ∀ bs : List Bool, DpAll K H (bs.map V.bl) (bs.map PyData.bool)
  | [] => .nil
  | b :: bs => .cons (.bl b) (dp_bools bs)
/-- the text of a list of truth values -/
def showB (bs : List Bool) : Str := PyData.shown (.list (bs.map PyData.bool))
theorem repr_bools {K : PySem.W.Frag} {H : Hp} {Q : VK} {a : Addr} (bs : List Bool) (h : H a = some (.lst (bs.map V.bl))) (hl : bs.length ≤ 1000) (q : Q (.str (showB bs)) H) : rRepr K [.ref a] H Q := by
  obtain ⟨h1, h2, h3, h4, h5⟩ := bools_show bs
  refine ⟨⟨a, .list (bs.map PyData.bool), rfl, .lst (.of h) (dp_bools bs), by rw [PyData.showable]; exact h1, by rw [PyData.hasDict]; exact h2, by rw [PyData.depth, h3]; decide, ?_, q⟩⟩
  rw [PyData.shown]
  have := listText_len_le (PyData.shownAll (bs.map PyData.bool))
  rw [h5] at this
  exact le_szl _ (by omega)
theorem call_reprD {X : Cx} (gd : X.A.guards = some []) (hu : X.A.units + 64 < cLine) : CallR X (.builtin "repr") (rRepr X.K) := by
  intro pins s σ H xs us Q I r h
  obtain ⟨a, d, rfl, hd, sh, nd, dp, sz, q⟩ := h.ex
  obtain ⟨u, rfl, rv⟩ := vals1 r
  obtain rfl : u = Value.ref a := rv
  obtain ⟨as, rd⟩ := Dp.reads I d _ _ hd rfl
  exact repr_of_reads' rd sh (fun z => by rw [nd] at z; cases z) gd (by omega) (fun _ _ e => e) (fun h' u tk k => ⟨.str _, H, I.kept k, ⟨_, rfl⟩, q⟩) sz
end
/-! ### the law's call -/
def hpS (a : Addr) (o : Obj) (xs : List V) (T : List Addr) : Hp := fun b => if b = a then some (.frz o (.lst xs)) else if b ∈ T then some (.tbl #[]) else none
section
variable {a b : Addr} {o : Obj} {xs : List V} {T : List Addr}
theorem hpS_a : hpS a o xs T a = some (.frz o (.lst xs)) := if_pos rfl
theorem hpS_T (h : b ≠ a) (hT : b ∈ T) : hpS a o xs T b = some (.tbl #[]) := (if_neg h).trans (if_pos hT)
theorem hpS_no (h : b ≠ a) (hT : b ∉ T) : hpS a o xs T b = none := (if_neg h).trans (if_neg hT)
theorem hpS_none (h : hpS a o xs T b = none) : b ≠ a ∧ b ∉ T := by
  refine ⟨fun e => ?_, fun e => ?_⟩
  · rw [e, hpS_a] at h; cases h
  · by_cases c : b = a
    · rw [c, hpS_a] at h; cases h
    · rw [hpS_T c e] at h; cases h
theorem hpS_some {u : HO} (h : hpS a o xs T b = some u) : (b = a ∧ u = .frz o (.lst xs)) ∨ (b ≠ a ∧ b ∈ T ∧ u = .tbl #[]) := by
  by_cases c : b = a
  · rw [c, hpS_a] at h; exact .inl ⟨c, (Option.some.inj h).symm⟩
  · by_cases d : b ∈ T
    · rw [hpS_T c d] at h; exact .inr ⟨c, d, (Option.some.inj h).symm⟩
    · rw [hpS_no c d] at h; cases h
end
/-- no list, no table among what is known of the module -/
def NoLT (K : PySem.W.Frag) : Prop := ∀ b o, K.lookup b = some o → ¬ (o.cls = .none ∧ o.data = .fields #[]) ∧ o.cls ≠ .type "list"
theorem law_endG {P : Program} {w : World} {K : PySem.W.Frag} {mg mb : Str → Option Value} {k : Nat} {fa a : Addr} {cs : List (Addr × Addr)} {fd : FuncData} {x : Str} {sp : Sp} {s₁ : Shared} {vs : List Value} {ns : List Int}
    (KX : K.In s₁.heap) (nlt : NoLT K) (hns : s₁.heap.Ns mainGlobals mg) (hb : s₁.heap.Ns builtinsNs mb) (hbb : ∀ x : Str, x ≠ "__name__" → mb x = bootBuiltins x) (hlim : s₁.heap.NoLimit) (hg : s₁.gens = #[])
    (hT : ∀ p ∈ cs, s₁.heap.get? p.2 = some { cls := .none, data := .fields #[] }) (C : ∀ p ∈ cs, PySem.W.CodeHd s₁.heap p.1 p.2)
    (hbm : ∃ (bm : Addr) (ob : Obj), mg "__builtins__" = some (.ref bm) ∧ bm ≠ builtinsNs ∧ s₁.heap.get? bm = some ob ∧ ob.cls = .type "module" ∧ ob.dict = some builtinsNs ∧ ob.data = .plain)
    (ha : s₁.heap.get? a = some { cls := .type "list", data := .seq vs.toArray }) (hi : IntsAre vs ns) (hl : ns.length ≤ sizeLine) (hr : Room k callerA)
    (F : ∀ base : Heap, K.In base → base.Ns mainGlobals mg → (∀ p ∈ cs, TabB base mg p.1 p.2) → FnG P w K mg base k fa fd [x] sp) (hbind : ∀ (s : Shared) (u : Value), BindsTo s fd ⟨[u], []⟩ [(x, u)])
    (hsp : ∀ H : Hp, (∀ p ∈ cs, H p.2 = some (.tbl #[])) → SqL K H a (ns.map V.int) → sp [.ref a] H (fun v _ => v = .bl true) fun _ _ _ => False) :
    codeAny (model P w) callerA (.call (.ref fa) ⟨[.ref a], []⟩) (fun r s' => r = .ok (.ret (.bool true)) ∧ OldK s₁.heap s'.heap ∧ s'.os = s₁.os ∧ AllBare s'.gens) s₁ := by
  have rv := vals_ints hi
  obtain ⟨T, hTd⟩ : ∃ T : List Addr, T = cs.map (·.2) := ⟨_, rfl⟩
  have tT : ∀ b ∈ T, s₁.heap.get? b = some { cls := .none, data := .fields #[] } := fun b hb => by
    rw [hTd] at hb
    obtain ⟨p, hp, e⟩ := List.mem_map.mp hb
    rw [← e]
    exact hT p hp
  have mT : ∀ p ∈ cs, p.2 ∈ T := fun p hp => by rw [hTd]; exact List.mem_map.mpr ⟨p, hp, rfl⟩
  have naT : a ∉ T := fun z => by
    have e := (tT a z).symm.trans ha
    have e2 : (Value.none) = Value.type "list" := congrArg Obj.cls (Option.some.inj e)
    cases e2
  have nTa : ∀ b ∈ T, b ≠ a := fun b hb e => naT (e ▸ hb)
  obtain ⟨H, hH⟩ : ∃ H : Hp, H = hpS a { cls := .type "list", data := .seq vs.toArray } (ns.map V.int) T := ⟨_, rfl⟩
  have hAt : ∀ p ∈ cs, H p.2 = some (.tbl #[]) := fun p hp => by rw [hH]; exact hpS_T (nTa _ (mT p hp)) (mT p hp)
  -- what is no list and no table is not tracked
  have un_ : ∀ b o, s₁.heap.get? b = some o → ¬ (o.cls = .none ∧ o.data = .fields #[]) → o.cls ≠ .type "list" → H b = none := fun b o e n1 n2 => by
    rw [hH]
    refine hpS_no (fun z => ?_) fun z => ?_
    · rw [z, ha] at e; cases e; exact n2 rfl
    · rw [tT b z] at e; cases e; exact n1 ⟨rfl, rfl⟩
  have un_d : ∀ {b : Addr} {o : Obj} {es : Array DictEntry} {ep : Nat}, s₁.heap.get? b = some o → o.data = .dict es ep → H b = none := fun {b o es ep} e d => by
    rw [hH]
    refine hpS_no (fun z => ?_) fun z => ?_
    · rw [z, ha] at e; cases e; cases d
    · rw [tT b z] at e; cases e; cases d
  have nsB : ∀ {b : Addr} {m : Str → Option Value}, s₁.heap.Ns b m → (hidT s₁.heap H).Ns b m := fun {b m} ⟨o, es, ep, e, d, r⟩ => ⟨o, es, ep, hidT_get e (un_d e d), d, r⟩
  have hKb : K.In (hidT s₁.heap H) := fun b o e => hidT_get (KX b o e) (un_ b o (KX b o e) (nlt b o e).1 (nlt b o e).2)
  have hok : HOk P w H s₁.heap := fun b u e => by
    rw [hH] at e
    rcases hpS_some e with ⟨rfl, rfl⟩ | ⟨_, hb, rfl⟩
    · exact ⟨ha, by rw [List.length_map]; exact hl, vs, _, rv, ha⟩
    · exact tT b hb
  have hM : L2.Mod K mg (hidT s₁.heap H) := ⟨hKb, nsB hns, ⟨mb, nsB hb, hbb⟩, let ⟨mc, h1, h2⟩ := hlim; ⟨mc, nsB h1, h2⟩⟩
  have e0 : Env0 P w K mg (hidT s₁.heap H) callerA [] s₁ H := ⟨rfl, hM, fun b o e => of_hidT e, Nat.le_of_eq (hidT_size _ _), trivial, fun b hb => absurd (show b ∈ ([] : List Addr) from hb) (by simp), hok, .of_eq hg⟩
  have TB : ∀ p ∈ cs, TabB (hidT s₁.heap H) mg p.1 p.2 := fun p hp => by
    refine ⟨?_, ?_, fun z => ?_⟩
    · obtain ⟨o, us, file, tf, flags, tg, inF, text, tt, e1, r1, rest⟩ := C p hp
      exact ⟨o, us, file, tf, flags, tg, inF, text, tt, hidT_get e1 (un_ _ _ e1 (by rw [r1]; exact fun z => nomatch z.1) (by rw [r1]; exact fun z => by injection z with z; exact absurd z (by decide))), r1, rest⟩
    · obtain ⟨bm, ob, b1, b2, b3, b4, b5, b6⟩ := hbm
      have q := un_ _ _ b3 (by rw [b4]; exact fun z => nomatch z.1) (by rw [b4]; exact fun z => by injection z with z; exact absurd z (by decide))
      refine ⟨bm, ob, b1, b2, fun z => ?_, fun z => ?_, hidT_get b3 q, b4, b5, b6⟩
      · obtain ⟨o, es, ep, e, hd, _⟩ := hns
        rw [z, e] at b3
        cases b3
        rw [hd] at b6
        cases b6
      · rw [z, hAt p hp] at q
        cases q
    · obtain ⟨o, es, ep, e, hd, _⟩ := hns
      rw [z, hT p hp] at e
      cases e
      cases hd
  have hS : SqL K H a (ns.map V.int) := .inl (.inr ⟨_, by rw [hH]; exact hpS_a⟩)
  refine codeAny_mono ((F _ hKb (nsB hns) TB).run callerA [] s₁ H ⟨[.ref a], []⟩ [.ref a] [.ref a] _ _ rfl hr e0 (hbind s₁ (.ref a)) (.cons rfl .nil) (hsp H hAt hS)) fun r s' h => ?_
  cases r with
  | error e => exact h.elim
  | ok fl =>
    cases fl with
    | next => exact False.elim h
    | brk => exact False.elim h
    | cont => exact False.elim h
    | ret u =>
      obtain ⟨v, H', os, bare, un, hok', r', q⟩ := h
      have q' : v = .bl true := q
      subst q'
      obtain rfl : u = Value.bool true := r'
      have grown : ∀ p ∈ cs, ∃ more : Array Value, s'.heap.get? p.2 = some { cls := .none, data := .fields more } := fun p hp => by
        obtain ⟨more, z⟩ := un.tbls p.2 #[] (hAt p hp)
        exact ⟨_, hok' p.2 _ z⟩
      have key : ∀ b o, b ∉ T → s₁.heap.get? b = some o → s'.heap.get? b = some o := fun b o nb e => by
        by_cases c : b = a
        · have z : H b = some (.frz { cls := .type "list", data := .seq vs.toArray } (.lst (ns.map V.int))) := by rw [hH, c]; exact hpS_a
          obtain ⟨e2, _⟩ := hok' b _ (un.frzs b _ _ z)
          rw [c, ha] at e
          cases e
          exact e2
        · exact un.keep b o e (by rw [hH]; exact hpS_no c nb) (fun z => nomatch z) (fun z => nomatch z)
      refine ⟨rfl, ⟨fun b o e => ?_, fun b o e => ?_⟩, os, bare⟩
      · by_cases hb : b ∈ T
        · rw [hTd] at hb
          obtain ⟨p, hp, ep⟩ := List.mem_map.mp hb
          obtain ⟨more, hm⟩ := grown p hp
          rw [← ep] at e ⊢
          rw [hT p hp] at e
          cases e
          exact .inr (.inl ⟨((C p hp).tab (hT p hp)).isCodeTable, rfl, #[], more, rfl, by rw [Array.empty_append]; exact hm⟩)
        · exact .inl (key b o hb e)
      · by_cases hb : b ∈ T
        · rw [hTd] at hb
          obtain ⟨p, hp, ep⟩ := List.mem_map.mp hb
          obtain ⟨more, hm⟩ := grown p hp
          rw [← ep]
          exact ⟨_, hm⟩
        · exact ⟨o, key b o hb e⟩
/-! ### what is known of the module: no lists, no tables -/
def plainO (o : Obj) : Bool := match o.cls with
  | .none => (match o.data with
    | .fields vs => !vs.isEmpty
    | _ => true)
  | .type t => !decide (t = "list")
  | _ => true
theorem plainO_ok {o : Obj} (h : plainO o = true) : ¬ (o.cls = .none ∧ o.data = .fields #[]) ∧ o.cls ≠ .type "list" := by
  unfold plainO at h
  refine ⟨fun e => ?_, fun e => ?_⟩
  · rw [e.1, e.2] at h
    simp at h
  · rw [e] at h
    simp at h
def frT (g : Addr → Option Obj) (as : List Addr) : PySem.W.Frag := as.filterMap fun a => match g a with
  | some o => if plainO o = true then some (a, o) else none
  | none => none
theorem look_mem {l : PySem.W.Frag} {a : Addr} {o : Obj} (h : l.lookup a = some o) : (a, o) ∈ l := by
  induction l with
  | nil => cases h
  | cons x r ih =>
    obtain ⟨b, u⟩ := x
    rw [List.lookup_cons] at h
    split at h
    · rename_i e
      have e := eq_of_beq e
      cases h
      rw [e]
      exact List.mem_cons_self
    · exact List.mem_cons_of_mem _ (ih h)
theorem frT_mem {g : Addr → Option Obj} {as : List Addr} {a : Addr} {o : Obj} (h : (frT g as).lookup a = some o) : g a = some o ∧ plainO o = true := by
  have hm := look_mem h
  obtain ⟨b, _, e⟩ := List.mem_filterMap.mp hm
  cases q : g b with
  | none => rw [q] at e; cases e
  | some u =>
    rw [q] at e
    have e : (if plainO u = true then some (b, u) else none) = some (a, o) := e
    by_cases c : plainO u = true
    · rw [if_pos c] at e
      cases e
      exact ⟨q, c⟩
    · rw [if_neg c] at e
      cases e
theorem frT_in {h : Heap} {as : List Addr} : (frT h.get? as).In h := fun _ _ e => (frT_mem e).1
theorem frT_no {g : Addr → Option Obj} {as : List Addr} : NoLT (frT g as) := fun _ _ e => plainO_ok (frT_mem e).2
def emptyTab : Option Obj → Bool
  | some ⟨.none, .none, .fields vs, sl⟩ => vs.isEmpty && sl.isEmpty
  | _ => false
theorem emptyTab_ok {o : Option Obj} (h : emptyTab o = true) : o = some { cls := .none, data := .fields #[] } := by
  unfold emptyTab at h
  split at h
  · obtain ⟨h1, h2⟩ := He.ba h
    have e1 := Array.isEmpty_iff.mp h1
    have e2 := Array.isEmpty_iff.mp h2
    subst e1 e2
    rfl
  · cases h
/-- the def x has a code object and a table, empty still -/
def tabB (g : Addr → Option Obj) (K : PySem.W.Frag) (x : Str) : Bool := match PySem.W.tabIn K x with
  | some (c, P) => PySem.W.codeHdIn K c P && emptyTab (g P)
  | none => false
def TabO (K : PySem.W.Frag) (h : Heap) (x : Str) (p : Addr × Addr) : Prop := PySem.W.tabIn K x = some p ∧ PySem.W.CodeHd h p.1 p.2 ∧ h.get? p.2 = some { cls := .none, data := .fields #[] }
theorem tabB_ok {K : PySem.W.Frag} {h : Heap} {x : Str} (X : K.In h) (e : tabB h.get? K x = true) : ∃ p, TabO K h x p := by
  unfold tabB at e
  split at e
  · rename_i c P hc
    obtain ⟨e1, e2⟩ := He.ba e
    exact ⟨(c, P), hc, PySem.W.codeHd_of_K X e1, emptyTab_ok e2⟩
  · cases e
/-- two tables are not the same one -/
def tabNe (K : PySem.W.Frag) (x y : Str) : Bool := match PySem.W.tabIn K x, PySem.W.tabIn K y with
  | some p, some q => !decide (p.2 = q.2)
  | _, _ => false
theorem tabNe_ok {K : PySem.W.Frag} {x y : Str} {p q : Addr × Addr} (e : tabNe K x y = true) (hx : PySem.W.tabIn K x = some p) (hy : PySem.W.tabIn K y = some q) : p.2 ≠ q.2 := by
  unfold tabNe at e
  rw [hx, hy] at e
  intro c
  have e : (!decide (p.2 = q.2)) = true := e
  rw [decide_eq_true c] at e
  cases e
theorem hu_of {TT : List NdefX.NTab} {PT : Addr} {nm : Nat → Nat → Str} (nd : (TT.map fun p => p.1).Nodup) (hm : (PT, nm) ∈ TT) : ∀ p ∈ TT, p.1 = PT → p.2 = nm := by
  induction TT with
  | nil => cases hm
  | cons x r ih =>
    rw [List.map_cons, List.nodup_cons] at nd
    intro p hp e
    rcases List.mem_cons.mp hm with h | h
    · subst h
      rcases List.mem_cons.mp hp with rfl | h2
      · rfl
      · exact absurd (List.mem_map.mpr ⟨p, h2, e⟩) nd.1
    · rcases List.mem_cons.mp hp with rfl | h2
      · exact absurd (List.mem_map.mpr ⟨_, h, e.symm⟩) nd.1
      · exact ih nd.2 h p h2 e
abbrev AlT : Type := AlE × Bool
def obsT (mo : PySem.W.Frag → Bool) (fn : List DefE) (ts : List Str) (g : Addr → Option Obj) (K : PySem.W.Frag) : AlT := (obsE mo fn K, ts.all fun x => tabB g K x)
def obsTG (n : Nat) (mo : PySem.W.Frag → Bool) (fn : List DefE) (ts : List Str) (g : Addr → Option Obj) : AlT := obsT mo fn ts g (frT g (asX g n))
def hookT (n : Nat) (mo : PySem.W.Frag → Bool) (fn : List DefE) (ts : List Str) : PySem.W.Hook where
  α := AlT
  obs := fun s => obsTG n mo fn ts s.heap.get?
  val := fun _ => (valE fn, true)
  says := fun _ h => ∃ K : PySem.W.Frag, K.In h ∧ NoLT K ∧ obsE mo fn K = valE fn ∧ ∀ x ∈ ts, ∃ p, TabO K h x p
  of := fun w s e => by
    have e1 : obsE mo fn (frT s.heap.get? (asX s.heap.get? n)) = valE fn := congrArg (fun z : AlT => z.1) e
    have e2 : (ts.all fun x => tabB s.heap.get? (frT s.heap.get? (asX s.heap.get? n)) x) = true := congrArg (fun z : AlT => z.2) e
    exact ⟨_, frT_in, frT_no, e1, fun x hx => tabB_ok frT_in (List.all_eq_true.mp e2 x hx)⟩
  keeps := fun _ _ _ ⟨K, hK, n, c, t⟩ k => ⟨K, PySem.W.Frag.In.keeps hK k, n, c, fun x hx => by
    obtain ⟨p, h1, h2, h3⟩ := t x hx
    exact ⟨p, h1, h2.keeps k, k _ _ h3⟩⟩
theorem obsTG_eq {n : Nat} {mo : PySem.W.Frag → Bool} {fn : List DefE} {ts : List Str} {g : Addr → Option Obj} {s : Shared} (h : ∀ a, g a = s.heap.get? a) : obsTG n mo fn ts g = (hookT n mo fn ts).obs s := by
  have e : g = s.heap.get? := funext h
  rw [e] <;> rfl
theorem walk_ofG {l : PySem.W.OpenLaw} {n k : Nat} {q : Program} {loose : List Str} {XP : (Str → Option Value) → Heap → Prop} {YP : World → Heap → Prop} {d : DefRec} {x : Str}
    (hn : l.most = some n) (hn2 : n ≤ sizeLine) (hdf : d.params.defaults = []) (hr : Room k callerA)
    (F : ∀ (w : World) (mg : Str → Option Value) (fa : Addr) (h : Heap), YP w h → h.Ns mainGlobals mg → mg d.name = some (.ref fa) →
      ∃ (K : PySem.W.Frag) (fd : FuncData) (cs : List (Addr × Addr)) (sp : Sp), K.In h ∧ NoLT K ∧ (∀ p ∈ cs, h.get? p.2 = some { cls := .none, data := .fields #[] }) ∧ (∀ p ∈ cs, PySem.W.CodeHd h p.1 p.2) ∧ (∀ (s : Shared) (u : Value), BindsTo s fd ⟨[u], []⟩ [(x, u)]) ∧
        (∀ (H : Hp) (a : Addr) (ns : List Int), ns.length ≤ n → (∀ p ∈ cs, H p.2 = some (.tbl #[])) → SqL K H a (ns.map V.int) → sp [.ref a] H (fun v _ => v = .bl true) fun _ _ _ => False) ∧
        ∀ base : Heap, K.In base → base.Ns mainGlobals mg → (∀ p ∈ cs, TabB base mg p.1 p.2) → FnG l.prog w K mg base k fa fd [x] sp) :
    PySem.W.WalkO q loose XP YP l.row.toRowW d [] (fun f vs => PySem.call f vs) := by
  refine Att.attach_call hn hdf fun w s₀ s₁ mg mb fa o pm cd doc a vs ns G Y ho hd hcd hmg hobj hints hlen hg => ?_
  obtain ⟨K, fd, cs, sp, KX, nlt, hT, C, hb, hsp, hF⟩ := F w mg fa _ Y G.T.g hmg
  exact law_endG KX nlt G.T.g G.T.b G.T.builtins G.T.nolimit hg hT C G.T.bmain hobj hints (Nat.le_trans hlen hn2) hr hF hb fun H hH hS => hsp H a ns hlen hH hS
end Od
end
section
set_option Elab.async false
set_option linter.all false
set_option maxRecDepth 100000
set_option maxHeartbeats 2000000
set_option autoImplicit false
/-! lists of truth values as data -/
namespace Od
open PySem PySem.Spec PyProof.Rows L2 C8
theorem eqv_bl : ∀ r s : List Bool, PyData.eqvAll (r.map PyData.bool) (s.map PyData.bool) = decide (r = s)
  | [], [] => rfl
  | [], _ :: _ => rfl
  | _ :: _, [] => rfl
  | x :: r, y :: s => by
    show (PyData.eqv (.bool x) (.bool y) && PyData.eqvAll (r.map PyData.bool) (s.map PyData.bool)) = _
    rw [eqv_bl r s]
    have e : PyData.eqv (.bool x) (.bool y) = decide (x = y) := by cases x <;> cases y <;> decide +kernel
    rw [e]
    by_cases h1 : x = y <;> by_cases h2 : r = s <;> simp [h1, h2]
theorem eqv_bools (r s : List Bool) : PyData.eqv (.list (r.map PyData.bool)) (.list (s.map PyData.bool)) = decide (r = s) := eqv_bl r s
theorem lay_bools : ∀ bs : List Bool, PyData.canLayAll0 (bs.map PyData.bool) = true ∧ PyData.depthAll (bs.map PyData.bool) = 0
  | [] => ⟨rfl, rfl⟩
  | b :: bs => by
    obtain ⟨h1, h2⟩ := lay_bools bs
    exact ⟨by simp [PyData.canLayAll0, PyData.canLay0, h1], by simp [PyData.depthAll, PyData.depth, h2]⟩
theorem shaped_bools (bs : List Bool) : SeqAt.shaped (.list (bs.map PyData.bool)) = true := by
  obtain ⟨h1, h2⟩ := lay_bools bs
  have e1 : (PyData.list (bs.map PyData.bool)).canLay0 = true := h1
  have e2 : (PyData.list (bs.map PyData.bool)).depth = PyData.depthAll (bs.map PyData.bool) + 1 := rfl
  unfold SeqAt.shaped
  rw [e1, e2, h2]
  rfl
theorem dp_bl {K : PySem.W.Frag} {H : Hp} : ∀ bs : List Bool, DpAll K H (bs.map V.bl) (bs.map PyData.bool)
  | [] => .nil
  | b :: bs => .cons (.bl b) (dp_bl bs)
theorem cut_to (xs : List V) (n : Nat) (h : n ≤ xs.length) : cutV xs none (some (n : Int)) = xs.take n := by
  unfold cutV
  rw [HT.sIx_none, HT.sIx_nat, Nat.min_eq_left h, List.drop_zero, Nat.sub_zero]
theorem cut_mid (xs : List V) (i j : Nat) (hi : i ≤ j) (hj : j ≤ xs.length) : cutV xs (some (i : Int)) (some (j : Int)) = (xs.drop i).take (j - i) := by
  unfold cutV
  rw [HT.sIx_nat, HT.sIx_nat, Nat.min_eq_left (Nat.le_trans hi hj), Nat.min_eq_left hj]
end Od
end
section
set_option Elab.async false
set_option linter.all false
set_option maxRecDepth 100000
set_option maxHeartbeats 4000000
set_option autoImplicit false
/-! charts of trees: what comes again, what stays -/
namespace Od
open PySem PySem.Spec PyProof.Rows L2 C8 Day NdefX LamX
/-- the columns come again -/
theorem CT.up : ∀ {c : CT}, c.ok → ∀ d, 28 ≤ d → c.g (d + 12) = c.g d
  | .of a b, ok, d, hd => by
    have := ok.1.ok.fit.1 d hd
    show (fun n => a.mem (d + 12) && b.mem n) = fun n => a.mem d && b.mem n
    rw [show a.mem (d + 12) = a.mem d from this]
  | .kst t, _, d, _ => rfl
  | .inv c, ok, d, hd => by
    show (fun n => !c.g (d + 12) n) = fun n => !c.g d n
    rw [CT.up (c := c) ok d hd]
  | .bin o c e, ok, d, hd => by
    show (fun n => opB o (c.g (d + 12) n) (e.g (d + 12) n)) = fun n => opB o (c.g d n) (e.g d n)
    rw [CT.up (c := c) ok.2.1 d hd, CT.up (c := e) ok.2.2 d hd]
theorem CT.dn : ∀ {c : CT}, c.ok → ∀ d, d < -28 → c.g (d - 12) = c.g d
  | .of a b, ok, d, hd => by
    have := ok.1.ok.fit.2 d hd
    show (fun n => a.mem (d - 12) && b.mem n) = fun n => a.mem d && b.mem n
    rw [show a.mem (d - 12) = a.mem d from this]
  | .kst t, _, d, _ => rfl
  | .inv c, ok, d, hd => by
    show (fun n => !c.g (d - 12) n) = fun n => !c.g d n
    rw [CT.dn (c := c) ok d hd]
  | .bin o c e, ok, d, hd => by
    show (fun n => opB o (c.g (d - 12) n) (e.g (d - 12) n)) = fun n => opB o (c.g d n) (e.g d n)
    rw [CT.dn (c := c) ok.2.1 d hd, CT.dn (c := e) ok.2.2 d hd]
/-- each day's column stands at a near day -/
theorem CT.near {c : CT} (ok : c.ok) (d : Int) : ∃ e, -45 ≤ e ∧ e < 46 ∧ c.g e = c.g d := by
  have up : ∀ (k : Nat) (d : Int), 28 ≤ d → d < 40 + k → ∃ e, -45 ≤ e ∧ e < 46 ∧ c.g e = c.g d := by
    intro k
    induction k with
    | zero => intro d h1 h2; exact ⟨d, by omega, by omega, rfl⟩
    | succ k ih =>
      intro d h1 h2
      by_cases h : d < 40
      · exact ⟨d, by omega, by omega, rfl⟩
      · obtain ⟨e, e1, e2, e3⟩ := ih (d - 12) (by omega) (by omega)
        have := CT.up ok (d - 12) (by omega)
        rw [show d - 12 + 12 = d by omega] at this
        exact ⟨e, e1, e2, by rw [e3, this]⟩
  have dn : ∀ (k : Nat) (d : Int), d < -28 → -41 - (k : Int) < d → ∃ e, -45 ≤ e ∧ e < 46 ∧ c.g e = c.g d := by
    intro k
    induction k with
    | zero => intro d h1 h2; exact ⟨d, by omega, by omega, rfl⟩
    | succ k ih =>
      intro d h1 h2
      by_cases h : -41 < d
      · exact ⟨d, by omega, by omega, rfl⟩
      · obtain ⟨e, e1, e2, e3⟩ := ih (d + 12) (by omega) (by omega)
        have := CT.dn ok (d + 12) (by omega)
        rw [show d + 12 - 12 = d by omega] at this
        exact ⟨e, e1, e2, by rw [e3, ← this]⟩
  by_cases h1 : 28 ≤ d
  · exact up (d - 39).toNat d h1 (by omega)
  · by_cases h2 : d < -28
    · exact dn (-40 - d).toNat d h2 (by omega)
    · exact ⟨d, by omega, by omega, rfl⟩
theorem CT.m_le : ∀ c : CT, c.m ≤ 2 ^ (2 ^ c.dep)
  | .of _ _ => Nat.le_refl _
  | .kst _ => by show 1 ≤ 2 ^ (2 ^ 0); decide
  | .inv c => Nat.le_trans c.m_le (Nat.pow_le_pow_right (by decide) (Nat.pow_le_pow_right (by decide) (Nat.le_succ _)))
  | .bin o c e => by
    have h1 := Nat.le_trans c.m_le (Nat.pow_le_pow_right (show 0 < 2 by decide) (Nat.pow_le_pow_right (show 0 < 2 by decide) (Nat.le_max_left c.dep e.dep)))
    have h2 := Nat.le_trans e.m_le (Nat.pow_le_pow_right (show 0 < 2 by decide) (Nat.pow_le_pow_right (show 0 < 2 by decide) (Nat.le_max_right c.dep e.dep)))
    have h3 := Nat.mul_le_mul h1 h2
    show c.m * e.m ≤ 2 ^ (2 ^ (max c.dep e.dep + 1))
    rw [Nat.pow_succ 2 (max c.dep e.dep), Nat.mul_two, Nat.pow_add]
    exact h3
theorem CT.m16 {c : CT} (h : c.dep ≤ 2) : c.m ≤ 1000 := Nat.le_trans c.m_le (Nat.le_trans (Nat.pow_le_pow_right (by decide) (Nat.pow_le_pow_right (by decide) h)) (by decide))
theorem IsChart.ex {C X p d dl : Addr} {n : Int} {H H' : Hp} {g : Int → DF} (c : IsChart C X H p g) (l : EX d H H') (pn : IsPen H d dl n) : IsChart C X H' p g := by
  obtain ⟨kvs, e2⟩ := pn.dict
  have row : ∀ {v : V} {r : Row2}, RowAt C H v r → RowAt C H' v r := fun {v r} ⟨t, a, b, e, h1, h2, h3, h4⟩ => ⟨t, a, b, e, l _ _ (fun z => by rw [z, e2] at h1; cases h1) (fun ps z => by cases z) h1, h2.ex l pn, h3.ex l pn, h4⟩
  have rows : ∀ {vs : List V} {R : List Row2}, RowsAt C H vs R → RowsAt C H' vs R := fun {vs R} h => by
    induction h with
    | nil => exact .nil
    | cons h _ ih => exact .cons (row h) ih
  obtain ⟨dx, q, xs, R, h1, h2, h3, h4⟩ := c
  exact ⟨dx, q, xs, R, l _ _ (fun z => by rw [z, e2] at h1; cases h1) (fun ps z => by cases z) h1, l _ _ (fun z => by rw [z, e2] at h2; cases h2) (fun ps z => by cases z) h2, rows h3, h4⟩
theorem IsChart.n {C X p : Addr} {H H' : Hp} {g : Int → DF} (c : IsChart C X H p g) (l : ExtN H H') : IsChart C X H' p g := by
  have row : ∀ {v : V} {r : Row2}, RowAt C H v r → RowAt C H' v r := fun {v r} ⟨t, a, b, e, h1, h2, h3, h4⟩ => ⟨t, a, b, e, l _ _ h1 (fun ps z => by cases z), h2.n l, h3.n l, h4⟩
  have rows : ∀ {vs : List V} {R : List Row2}, RowsAt C H vs R → RowsAt C H' vs R := fun {vs R} h => by
    induction h with
    | nil => exact .nil
    | cons h _ ih => exact .cons (row h) ih
  obtain ⟨dx, q, xs, R, h1, h2, h3, h4⟩ := c
  exact ⟨dx, q, xs, R, l _ _ h1 (fun ps z => by cases z), l _ _ h2 (fun ps z => by cases z), rows h3, h4⟩
theorem rgv_mem {a b : Int} {v : V} (h : v ∈ rgV a b) : ∃ n, v = .int n ∧ a ≤ n ∧ n < b := by
  unfold rgV at h
  obtain ⟨i, hi, rfl⟩ := List.mem_map.mp h
  rw [List.mem_range] at hi
  exact ⟨_, rfl, by omega, by omega⟩
/-- a near day or age that is like a far one -/
def nr (d : Int) : Int := if 28 ≤ d then 28 + (d - 28) % 12 else if d < -28 then -29 - (-29 - d) % 12 else d
theorem nr_near (d : Int) : -45 ≤ nr d ∧ nr d < 46 := by
  unfold nr
  split
  · omega
  · split <;> omega
theorem comes_nr {α : Type} {f : Int → α} (up : ∀ d, 28 ≤ d → f (d + 12) = f d) (dn : ∀ d, d < -28 → f (d - 12) = f d) (d : Int) : f (nr d) = f d := by
  have hu : ∀ (k : Nat) (d : Int), 28 ≤ d → f (d + 12 * (k : Int)) = f d := by
    intro k
    induction k with
    | zero => intro d _; rw [show d + 12 * ((0 : Nat) : Int) = d by omega]
    | succ k ih => intro d h; rw [show d + 12 * ((k + 1 : Nat) : Int) = d + 12 * (k : Int) + 12 by omega, up _ (by omega), ih d h]
  have hd : ∀ (k : Nat) (d : Int), d < -28 → f (d - 12 * (k : Int)) = f d := by
    intro k
    induction k with
    | zero => intro d _; rw [show d - 12 * ((0 : Nat) : Int) = d by omega]
    | succ k ih => intro d h; rw [show d - 12 * ((k + 1 : Nat) : Int) = d - 12 * (k : Int) - 12 by omega, dn _ (by omega), ih d h]
  unfold nr
  split
  · rename_i h
    have := hu ((d - 28) / 12).toNat (28 + (d - 28) % 12) (by omega)
    rw [← this]
    congr 1
    omega
  · split
    · rename_i h
      have := hd ((-29 - d) / 12).toNat (-29 - (-29 - d) % 12) (by omega)
      rw [← this]
      congr 1
      omega
    · rfl
theorem CT.upA : ∀ {c : CT}, c.ok → ∀ d a, 28 ≤ a → c.g d (a + 12) = c.g d a
  | .of x y, ok, d, n, hn => by
    show (x.mem d && y.mem (n + 12)) = (x.mem d && y.mem n)
    rw [show y.mem (n + 12) = y.mem n from ok.2.ok.fit.1 n hn]
  | .kst t, _, d, _, _ => rfl
  | .inv c, ok, d, n, hn => by
    show (!c.g d (n + 12)) = !c.g d n
    rw [CT.upA (c := c) ok d n hn]
  | .bin o c e, ok, d, n, hn => by
    show opB o (c.g d (n + 12)) (e.g d (n + 12)) = opB o (c.g d n) (e.g d n)
    rw [CT.upA (c := c) ok.2.1 d n hn, CT.upA (c := e) ok.2.2 d n hn]
theorem CT.dnA : ∀ {c : CT}, c.ok → ∀ d a, a < -28 → c.g d (a - 12) = c.g d a
  | .of x y, ok, d, n, hn => by
    show (x.mem d && y.mem (n - 12)) = (x.mem d && y.mem n)
    rw [show y.mem (n - 12) = y.mem n from ok.2.ok.fit.2 n hn]
  | .kst t, _, d, _, _ => rfl
  | .inv c, ok, d, n, hn => by
    show (!c.g d (n - 12)) = !c.g d n
    rw [CT.dnA (c := c) ok d n hn]
  | .bin o c e, ok, d, n, hn => by
    show opB o (c.g d (n - 12)) (e.g d (n - 12)) = opB o (c.g d n) (e.g d n)
    rw [CT.dnA (c := c) ok.2.1 d n hn, CT.dnA (c := e) ok.2.2 d n hn]
theorem CT.nr {c : CT} (ok : c.ok) (d a : Int) : c.g (Od.nr d) (Od.nr a) = c.g d a := by
  rw [comes_nr (f := fun d => c.g d) (fun d h => CT.up ok d h) (fun d h => CT.dn ok d h) d]
  exact comes_nr (f := fun a => c.g d a) (fun a h => CT.upA ok d a h) (fun a h => CT.dnA ok d a h) a
theorem TreeAt.gen2 {H H' : Hp} (ht : ∀ p xs, H p = some (.tup xs) → H' p = some (.tup xs)) (hl : ∀ p F, H p = some (wordsV F) → H' p = some (wordsV F)) : ∀ {c : CT} {v : V}, TreeAt H v c → TreeAt H' v c
  | .of a b, v, ⟨t, x, y, e, h1, h2, h3⟩ => ⟨t, x, y, e, ht _ _ h1, hl _ _ h2, hl _ _ h3⟩
  | .kst t, v, ⟨p, e, h1⟩ => ⟨p, e, ht _ _ h1⟩
  | .inv c, v, ⟨p, u, e, h1, h2⟩ => ⟨p, u, e, ht _ _ h1, TreeAt.gen2 ht hl h2⟩
  | .bin o c e, v, ⟨p, u, u', q, h1, h2, h3⟩ => ⟨p, u, u', q, ht _ _ h1, TreeAt.gen2 ht hl h2, TreeAt.gen2 ht hl h3⟩
theorem TreeAt.set {H : Hp} {T a b : Addr} {o : HO} {c : CT} {v : V} (h : TreeAt H v c) (hT : H T = some (.lst [.ref a, .ref b])) : TreeAt (upd H T o) v c := h.gen2 (fun p xs e => by
    rw [upd_ne (fun z => by rw [z, hT] at e; cases e)]
    exact e) fun p F e => by
    rw [upd_ne (fun z => by
      rw [z, hT] at e
      unfold wordsV words4 at e
      simp at e)]
    exact e
theorem EX.set {d T : Addr} {H0 H : Hp} {o : HO} (ex : EX d H0 H) (hn : ∀ o, (∀ ps, o ≠ .tbl ps) → H0 T = some o → T = d) : EX d H0 (upd H T o) := fun x u c n h => by
  rw [upd_ne (fun z => by
    subst z
    exact c (hn u n h))]
  exact ex x u c n h
/-- a chart stands where a list of no rows changes -/
theorem IsChart.set {C X p D : Addr} {H : Hp} {g : Int → DF} {acc : List V} {o : HO} (c : IsChart C X H p g) (hD : H D = some (.lst acc)) (ha : ∀ v ∈ acc, ∃ b dx cl fs, v = .ref b ∧ H b = some (.ins cl dx fs)) : IsChart C X (upd H D o) p g := by
  obtain ⟨dx, q, xs, R, h1, h2, h3, h4, h5⟩ := c
  have l : LeX D H (upd H D o) := (Le.refl).x.upd
  refine ⟨dx, q, xs, R, l _ _ (fun z => by rw [z, hD] at h1; cases h1) h1, l _ _ (fun z => ?_) h2, ?_, h4, h5⟩
  · rw [z, hD] at h2
    injection h2 with h2
    injection h2 with h2
    subst h2
    obtain ⟨r, hr, _⟩ := h4.t.cov 0
    obtain ⟨i, hi, e⟩ := List.mem_iff_getElem.mp hr
    have hl := h3.len
    have hx : acc[i]? = some (acc[i]'(by omega)) := List.getElem?_eq_getElem _
    obtain ⟨b, dx', cl, fs, e1, e2⟩ := ha _ (List.mem_of_getElem? hx)
    obtain ⟨_, _, t, _, _, e3, e4, _⟩ := h3.get hx
    rw [e1] at e3
    injection e3 with e3
    rw [← e3, e2] at e4
    cases e4
  · clear h2 h4 h5 h1
    induction h3 with
    | nil => exact .nil
    | cons h _ ih => exact .cons (h.lst l ⟨_, hD⟩) ih
theorem ClN.at' {P : Program} {w : World} {K : PySem.W.Frag} {mg : Str → Option Value} {base : Heap} {k : Nat} {H0 H : Hp} {p : Addr} {g : List V → Option V} (c : ClN P w K mg base k H0 H p g) : ClAt P w K mg base k H p g := by
  obtain ⟨S, c, _⟩ := c
  exact ⟨S, c⟩
end Od
end
section
set_option Elab.async false
set_option linter.all false
set_option maxRecDepth 100000
set_option maxHeartbeats 2000000
set_option autoImplicit false
/-! charts: pairs, order -/
namespace Od
open PySem PySem.Spec PyProof.Rows L2 C8 Day
/-- some pair -/
def AnyC (g : Int → DF) : Prop := ∃ d a, g d a = true
def SubC (g g' : Int → DF) : Prop := ∀ d a, g d a = true → g' d a = true
theorem subC_any {g g' : Int → DF} : SubC g g' ↔ ¬ AnyC fun d a => g d a && !g' d a := by
  constructor
  · rintro h ⟨d, a, e⟩
    have e : (g d a && !g' d a) = true := e
    rw [Bool.and_eq_true] at e
    rw [h d a e.1] at e
    cases e.2
  · intro h d a e
    cases e2 : g' d a with
    | true => rfl
    | false => exact absurd ⟨d, a, by show (g d a && !g' d a) = true; rw [e, e2]; rfl⟩ h
theorem eqC_any {g g' : Int → DF} : (∀ d a, g d a = g' d a) ↔ ¬ AnyC fun d a => g d a != g' d a := by
  constructor
  · rintro h ⟨d, a, e⟩
    have e : (g d a != g' d a) = true := e
    rw [h] at e
    simp at e
  · intro h d a
    cases e : (g d a != g' d a) with
    | false => simpa using e
    | true => exact absurd ⟨d, a, e⟩ h
section
variable {P : Program} {w : World} {K : PySem.W.Frag} {mg : Str → Option Value} {base : Heap}
abbrev s_Chart___contains__ : Stmt := inClass (top 28) 5
abbrev N_Chart___contains__ : List Str := ["self", "pair", "day", "age"]
abbrev P_Chart___contains__ : List Str := ["self", "pair"]
theorem sc_Chart___contains__ : FnScope N_Chart___contains__ P_Chart___contains__ (C8.fnScope s_Chart___contains__) := fnScope_by (by decide +kernel)
def sp_cin (C X : Addr) : Sp := fun vs H Q _ => ∃ (p t : Addr) (d a : Int) (g : Int → DF), vs = [.ref p, .ref t] ∧ H t = some (.tup [.int d, .int a]) ∧ IsChart C X H p g ∧ Q (.bl (g d a)) H
theorem q_cin {C X : Addr} (T : Txt K mg) (D : DSC K mg C) (DC : DCC K mg X) (M : MetOf K X "__contains__" "Chart.__contains__" s_Chart___contains__ P_Chart___contains__) (Q_Chart_ages : Met P w K mg base 7 X "ages" (sp_ages C X) []) (Q_DaySet___contains__ : Met P w K mg base 2 C "__contains__" (sp_has C) []) : Met P w K mg base 8 X "__contains__" (sp_cin C X) [] := by
  obtain ⟨g_, fd, M, F, B⟩ := M
  refine met0 DC.cl M F B sc_Chart___contains__ (fun vs H Q E h => by obtain ⟨_, _, _, _, _, rfl, _⟩ := h; rfl) (fun cdv A outer s H vs Q E hr h => ?_)
  obtain ⟨p, t, d, a, g, rfl, ht, hp, qq⟩ := h
  have nd := sc_Chart___contains__.nd
  refine ⟨_, (pss_cons (ps_asg (pv 1) (pg_tup rfl (pgs_cons (pg_name (i := 2) nd rfl (Or.inl rfl)) (pgs_cons (pg_name (i := 3) nd rfl (Or.inl rfl)) pgs_nil))))
      (pss_one (ps_ret (pe_cmpR (op_ownInM Q_DaySet___contains__ hr (by decide)) (pv 3) (pe_mt Q_Chart_ages hr (by decide) (pv 0) (pa_cons (pv 2) pa_nil)) (by rfl))))), ?_⟩
  obtain ⟨_, _, _, _, hp1, _⟩ := id hp
  refine ⟨_, rfl, t, _, rfl, .of ht, rfl, _, _, rfl, _, _, rfl, rfl, ?_⟩
  refine ⟨_, rfl, _, rfl, _, _, _, rfl, hp1, by rfl, _, rfl, p, d, g, rfl, hp, fun r dr or => ?_⟩
  obtain ⟨_, _, _, _, _, hr1⟩ := id dr
  exact ⟨_, _, _, rfl, hr1, r, a, g d, rfl, dr, _, rfl, qq⟩
abbrev s_Chart___bool__ : Stmt := inClass (top 28) 16
abbrev N_Chart___bool__ : List Str := ["self", "days", "ages"]
abbrev P_Chart___bool__ : List Str := ["self"]
theorem sc_Chart___bool__ : FnScope N_Chart___bool__ P_Chart___bool__ (C8.fnScope s_Chart___bool__) := fnScope_by (by decide +kernel)
def sp_cbool (C X : Addr) : Sp := fun vs H Q _ => ∃ (p : Addr) (g : Int → DF) (κ : Int → Nat) (m : Nat), vs = [.ref p] ∧ IsChart C X H p g ∧ Dep κ m g ∧ m ≤ 1000 ∧ ∀ b H', Le H H' → (b = true ↔ AnyC g) → Q (.bl b) H'
theorem bools_of {R : List Row2} : ∀ {us : List V}, All2 (fun v (f : DF) => ∃ b, v = .bl b ∧ (b = true ↔ Any f)) us (R.map fun r => r.2) → ∃ bs : List Bool, us = bs.map V.bl ∧ (bs.any id = true ↔ ∃ r ∈ R, Any r.2) := by
  induction R with
  | nil =>
    intro us h
    cases h
    exact ⟨[], rfl, by simp⟩
  | cons r R ih =>
    intro us h
    cases h with
    | cons h h2 =>
      obtain ⟨b, rfl, hb⟩ := h
      obtain ⟨bs, rfl, hbs⟩ := ih h2
      refine ⟨b :: bs, rfl, ?_⟩
      rw [List.any_cons, Bool.or_eq_true, hbs]
      show b = true ∨ _ ↔ _
      rw [hb]
      simp
theorem q_cbool {C X : Addr} (T : Txt K mg) (D : DSC K mg C) (DC : DCC K mg X) (M : MetOf K X "__bool__" "Chart.__bool__" s_Chart___bool__ P_Chart___bool__) (Q_DaySet___bool__ : Met P w K mg base 1 C "__bool__" (sp_bool C) []) : Met P w K mg base 3 X "__bool__" (sp_cbool C X) [] := by
  obtain ⟨g_, fd, M, F, B⟩ := M
  refine met0 DC.cl M F B sc_Chart___bool__ (fun vs H Q E h => by obtain ⟨_, _, _, _, rfl, _⟩ := h; rfl) (fun cdv A outer s H vs Q E hr h => ?_)
  obtain ⟨p, g, κ, m, rfl, hp, k1, hm, qq⟩ := h
  have nd := sc_Chart___bool__.nd
  refine ⟨_, (pss_one (ps_ret (pe_callB (cr_any rfl) (by rfl) T.b_any (by decide +kernel) (pa_cons (pe_lc (own := [("days", 1), ("ages", 2)]) (g := (gTup K 2 (gCons (gName 1) (gCons (gName 2) gNil)))) (by rfl) nd (pi_list (pe_fld (pv 0) rfl)) (blkOk_by (own := [("days", 1), ("ages", 2)]) (N := N_Chart___bool__) (sc := C8.fnScope s_Chart___bool__) (by decide +kernel)) (fun _ _ _ _ _ => (pg_tupK (K := K) rfl rfl (pgs_cons (pg_name (i := 1) nd rfl (Or.inl rfl) (Or.inr rfl)) (pgs_cons (pg_name (i := 2) nd rfl (Or.inl rfl) (Or.inr rfl)) pgs_nil)))) (fun _ _ _ _ _ => pts_nil) (fun _ _ _ _ _ => (pe_callTy (call_bool_ownM Q_DaySet___bool__ hr (by decide)) (by rfl) T.b_bool (by decide +kernel) (pa_cons (pv 2) pa_nil)))) pa_nil)))), ?_⟩
  obtain ⟨dx, lp, xs, R, hp1, hlp, hR, lR, _⟩ := hp
  have r1 := lR.few k1
  have hxl := hR.len
  refine ⟨_, rfl, _, _, _, _, _, rfl, hp1, DC.cl, DC.n_pairs, by rfl, _, rfl, ⟨_, .of hlp⟩, fun D1 nD1 => ?_⟩
  refine lc_eff (xs := xs) walk_list gives_at nD1 (fun _ le => .of (le _ _ hlp)) R hxl.symm (le_szl _ (by omega)) (fun r => r.2) (fun v (f : DF) _ => ∃ b, v = .bl b ∧ (b = true ↔ Any f)) (fun v s H H' l hD h => h) ?_ ?_
  · intro i x r Hx hx hr le
    obtain ⟨r', hr', t, a, b, rfl, ht, da, db, oa, ob⟩ := hR.get hx
    obtain rfl : r' = r := by rw [hr] at hr'; exact (Option.some.inj hr').symm
    refine ⟨_, ?_, fun K2 hK => ⟨t, _, rfl, .of (le _ _ ht), rfl, _, _, rfl, _, _, rfl, rfl, hK⟩, fun N hN => ?_⟩
    · rfl
    · have db' := db.le le
      obtain ⟨_, _, _, _, _, hb1⟩ := id db'
      exact ⟨_, rfl, _, _, _, rfl, hb1, b, r'.2, rfl, db', fun bb hbb => ⟨bb, rfl, hN _ _ .refl ⟨bb, rfl, hbb⟩⟩⟩
  · intro H2 us le e hW
    obtain ⟨bs, rfl, hbs⟩ := bools_of hW
    refine ⟨_, bs, rfl, .of e, qq _ H2 le ?_⟩
    rw [hbs]
    constructor
    · rintro ⟨r, hr, a, ha⟩
      obtain ⟨d, hd⟩ := lR.ne r hr
      exact ⟨d, a, by rw [← lR.t.is r hr d hd]; exact ha⟩
    · rintro ⟨d, a, ha⟩
      obtain ⟨r, hr, hd⟩ := lR.t.cov d
      exact ⟨r, hr, a, by rw [lR.t.is r hr d hd]; exact ha⟩
def sp_crel (C X : Addr) (Rl : (Int → DF) → (Int → DF) → Prop) : Sp := fun vs H Q _ => ∃ (p q : Addr) (g g' : Int → DF) (κ : Int → Nat) (m : Nat), vs = [.ref p, .ref q] ∧ IsChart C X H p g ∧ IsChart C X H q g' ∧ Dep κ m g ∧ Dep κ m g' ∧ m ≤ 1000 ∧ ∀ e H', (e = true ↔ Rl g g') → Le H H' → Q (.bl e) H'
theorem not_iff {b : Bool} {A B : Prop} (h : b = true ↔ A) (hb : B ↔ ¬ A) : (!b) = true ↔ B := by
  rw [hb, ← h]
  cases b <;> simp
abbrev s_Chart___le__ : Stmt := inClass (top 28) 11
abbrev N_Chart___le__ : List Str := ["self", "other"]
abbrev P_Chart___le__ : List Str := ["self", "other"]
theorem sc_Chart___le__ : FnScope N_Chart___le__ P_Chart___le__ (C8.fnScope s_Chart___le__) := fnScope_by (by decide +kernel)
theorem q_cle {C X : Addr} (T : Txt K mg) (D : DSC K mg C) (DC : DCC K mg X) (M : MetOf K X "__le__" "Chart.__le__" s_Chart___le__ P_Chart___le__) (Q_Chart___sub__ : Met P w K mg base 11 X "__sub__" (sp_cbin C X fun a b => a && !b) []) (Q_Chart___bool__ : Met P w K mg base 3 X "__bool__" (sp_cbool C X) []) : Met P w K mg base 12 X "__le__" (sp_crel C X fun g g' => SubC g g') [] := by
  obtain ⟨g_, fd, M, F, B⟩ := M
  refine met0 DC.cl M F B sc_Chart___le__ (fun vs H Q E h => by obtain ⟨_, _, _, _, _, _, rfl, _⟩ := h; rfl) (fun cdv A outer s H vs Q E hr h => ?_)
  obtain ⟨p, q, g, g', κ, m, rfl, hp, hq, k1, k2, hm, qq⟩ := h
  have nd := sc_Chart___le__.nd
  refine ⟨_, (pss_one (ps_ret (pe_not_own Q_Chart___bool__ hr (by decide) (pe_op (op_ownM DC.sf Q_Chart___sub__ hr (by decide)) (pv 0) (pv 1))))), ?_⟩
  obtain ⟨_, _, _, _, hp1, _⟩ := id hp
  obtain ⟨_, _, _, _, hq1, _⟩ := id hq
  refine ⟨_, rfl, _, rfl, _, _, _, _, _, _, rfl, rfl, hp1, hq1, p, q, g, g', κ, m, rfl, hp, hq, k1, k2, hm, fun r H1 l1 hc nc => ?_⟩
  obtain ⟨_, _, _, _, hr1, _⟩ := id hc
  refine ⟨_, _, _, rfl, hr1, r, _, κ, m, rfl, hc, k1.bin k2 fun a b => a && !b, hm, fun e H2 l2 he => ⟨e, rfl, ?_⟩⟩
  exact qq _ H2 (not_iff he subC_any) (l1.trans l2)
abbrev s_Chart___ge__ : Stmt := inClass (top 28) 13
abbrev N_Chart___ge__ : List Str := ["self", "other"]
abbrev P_Chart___ge__ : List Str := ["self", "other"]
theorem sc_Chart___ge__ : FnScope N_Chart___ge__ P_Chart___ge__ (C8.fnScope s_Chart___ge__) := fnScope_by (by decide +kernel)
theorem q_cge {C X : Addr} (T : Txt K mg) (D : DSC K mg C) (DC : DCC K mg X) (M : MetOf K X "__ge__" "Chart.__ge__" s_Chart___ge__ P_Chart___ge__) (Q_Chart___sub__ : Met P w K mg base 11 X "__sub__" (sp_cbin C X fun a b => a && !b) []) (Q_Chart___bool__ : Met P w K mg base 3 X "__bool__" (sp_cbool C X) []) : Met P w K mg base 12 X "__ge__" (sp_crel C X fun g g' => SubC g' g) [] := by
  obtain ⟨g_, fd, M, F, B⟩ := M
  refine met0 DC.cl M F B sc_Chart___ge__ (fun vs H Q E h => by obtain ⟨_, _, _, _, _, _, rfl, _⟩ := h; rfl) (fun cdv A outer s H vs Q E hr h => ?_)
  obtain ⟨p, q, g, g', κ, m, rfl, hp, hq, k1, k2, hm, qq⟩ := h
  have nd := sc_Chart___ge__.nd
  refine ⟨_, (pss_one (ps_ret (pe_not_own Q_Chart___bool__ hr (by decide) (pe_op (op_ownM DC.sf Q_Chart___sub__ hr (by decide)) (pv 1) (pv 0))))), ?_⟩
  obtain ⟨_, _, _, _, hp1, _⟩ := id hp
  obtain ⟨_, _, _, _, hq1, _⟩ := id hq
  refine ⟨_, rfl, _, rfl, _, _, _, _, _, _, rfl, rfl, hq1, hp1, q, p, g', g, κ, m, rfl, hq, hp, k2, k1, hm, fun r H1 l1 hc nc => ?_⟩
  obtain ⟨_, _, _, _, hr1, _⟩ := id hc
  refine ⟨_, _, _, rfl, hr1, r, _, κ, m, rfl, hc, k2.bin k1 fun a b => a && !b, hm, fun e H2 l2 he => ⟨e, rfl, ?_⟩⟩
  exact qq _ H2 (not_iff he subC_any) (l1.trans l2)
abbrev s_Chart___lt__ : Stmt := inClass (top 28) 12
abbrev N_Chart___lt__ : List Str := ["self", "other"]
abbrev P_Chart___lt__ : List Str := ["self", "other"]
theorem sc_Chart___lt__ : FnScope N_Chart___lt__ P_Chart___lt__ (C8.fnScope s_Chart___lt__) := fnScope_by (by decide +kernel)
theorem q_clt {C X : Addr} (T : Txt K mg) (D : DSC K mg C) (DC : DCC K mg X) (M : MetOf K X "__lt__" "Chart.__lt__" s_Chart___lt__ P_Chart___lt__) (Q_Chart___sub__ : Met P w K mg base 11 X "__sub__" (sp_cbin C X fun a b => a && !b) []) (Q_Chart___bool__ : Met P w K mg base 3 X "__bool__" (sp_cbool C X) []) : Met P w K mg base 12 X "__lt__" (sp_crel C X fun g g' => SubC g g' ∧ ¬ SubC g' g) [] := by
  obtain ⟨g_, fd, M, F, B⟩ := M
  refine met0 DC.cl M F B sc_Chart___lt__ (fun vs H Q E h => by obtain ⟨_, _, _, _, _, _, rfl, _⟩ := h; rfl) (fun cdv A outer s H vs Q E hr h => ?_)
  obtain ⟨p, q, g, g', κ, m, rfl, hp, hq, k1, k2, hm, qq⟩ := h
  have nd := sc_Chart___lt__.nd
  refine ⟨_, (pss_one (ps_ret (pe_and (pe_not_own Q_Chart___bool__ hr (by decide) (pe_op (op_ownM DC.sf Q_Chart___sub__ hr (by decide)) (pv 0) (pv 1))) (pe_one (pe_callTy (call_bool_ownM Q_Chart___bool__ hr (by decide)) (by rfl) T.b_bool (by decide +kernel) (pa_cons (pe_op (op_ownM DC.sf Q_Chart___sub__ hr (by decide)) (pv 1) (pv 0)) pa_nil)))))), ?_⟩
  obtain ⟨_, _, _, _, hp1, _⟩ := id hp
  obtain ⟨_, _, _, _, hq1, _⟩ := id hq
  refine ⟨_, rfl, _, rfl, _, _, _, _, _, _, rfl, rfl, hp1, hq1, p, q, g, g', κ, m, rfl, hp, hq, k1, k2, hm, fun r H1 l1 hc nc => ?_⟩
  obtain ⟨_, _, _, _, hr1, _⟩ := id hc
  refine ⟨_, _, _, rfl, hr1, r, _, κ, m, rfl, hc, k1.bin k2 fun a b => a && !b, hm, fun e H2 l2 he => ⟨e, rfl, ?_⟩⟩
  have hp2 := (hp.le l1).le l2
  have hq2 := (hq.le l1).le l2
  obtain ⟨_, _, _, _, hp3, _⟩ := id hp2
  obtain ⟨_, _, _, _, hq3, _⟩ := id hq2
  refine ⟨_, rfl, ?_⟩
  refine ite2 (fun c => ?_) (fun c => ?_)
  · have c : e = false := by simpa using c
    refine ⟨_, rfl, _, rfl, _, _, _, _, _, _, rfl, rfl, hq3, hp3, q, p, g', g, κ, m, rfl, hq2, hp2, k2, k1, hm, fun r3 H3 l3 hc3 nc3 => ?_⟩
    obtain ⟨_, _, _, _, hr3, _⟩ := id hc3
    refine ⟨_, _, _, rfl, hr3, r3, _, κ, m, rfl, hc3, k2.bin k1 fun a b => a && !b, hm, fun e2 H4 l4 he2 => ⟨e2, rfl, qq _ H4 ?_ (((l1.trans l2).trans l3).trans l4)⟩⟩
    rw [he2]
    constructor
    · intro h
      exact ⟨subC_any.mpr fun h2 => (by rw [he.mpr h2] at c; cases c), fun h2 => subC_any.mp h2 h⟩
    · rintro ⟨_, h2⟩
      exact Classical.byContradiction fun h3 => h2 (subC_any.mpr h3)
  · have c : e = true := by simpa using c
    refine qq false H2 ⟨fun h => (by cases h), fun h => absurd (he.mp c) (subC_any.mp h.1)⟩ (l1.trans l2)
abbrev s_Chart___gt__ : Stmt := inClass (top 28) 14
abbrev N_Chart___gt__ : List Str := ["self", "other"]
abbrev P_Chart___gt__ : List Str := ["self", "other"]
theorem sc_Chart___gt__ : FnScope N_Chart___gt__ P_Chart___gt__ (C8.fnScope s_Chart___gt__) := fnScope_by (by decide +kernel)
theorem q_cgt {C X : Addr} (T : Txt K mg) (D : DSC K mg C) (DC : DCC K mg X) (M : MetOf K X "__gt__" "Chart.__gt__" s_Chart___gt__ P_Chart___gt__) (Q_Chart___sub__ : Met P w K mg base 11 X "__sub__" (sp_cbin C X fun a b => a && !b) []) (Q_Chart___bool__ : Met P w K mg base 3 X "__bool__" (sp_cbool C X) []) : Met P w K mg base 12 X "__gt__" (sp_crel C X fun g g' => SubC g' g ∧ ¬ SubC g g') [] := by
  obtain ⟨g_, fd, M, F, B⟩ := M
  refine met0 DC.cl M F B sc_Chart___gt__ (fun vs H Q E h => by obtain ⟨_, _, _, _, _, _, rfl, _⟩ := h; rfl) (fun cdv A outer s H vs Q E hr h => ?_)
  obtain ⟨p, q, g, g', κ, m, rfl, hp, hq, k1, k2, hm, qq⟩ := h
  have nd := sc_Chart___gt__.nd
  refine ⟨_, (pss_one (ps_ret (pe_and (pe_not_own Q_Chart___bool__ hr (by decide) (pe_op (op_ownM DC.sf Q_Chart___sub__ hr (by decide)) (pv 1) (pv 0))) (pe_one (pe_callTy (call_bool_ownM Q_Chart___bool__ hr (by decide)) (by rfl) T.b_bool (by decide +kernel) (pa_cons (pe_op (op_ownM DC.sf Q_Chart___sub__ hr (by decide)) (pv 0) (pv 1)) pa_nil)))))), ?_⟩
  obtain ⟨_, _, _, _, hp1, _⟩ := id hp
  obtain ⟨_, _, _, _, hq1, _⟩ := id hq
  refine ⟨_, rfl, _, rfl, _, _, _, _, _, _, rfl, rfl, hq1, hp1, q, p, g', g, κ, m, rfl, hq, hp, k2, k1, hm, fun r H1 l1 hc nc => ?_⟩
  obtain ⟨_, _, _, _, hr1, _⟩ := id hc
  refine ⟨_, _, _, rfl, hr1, r, _, κ, m, rfl, hc, k2.bin k1 fun a b => a && !b, hm, fun e H2 l2 he => ⟨e, rfl, ?_⟩⟩
  have hp2 := (hp.le l1).le l2
  have hq2 := (hq.le l1).le l2
  obtain ⟨_, _, _, _, hp3, _⟩ := id hp2
  obtain ⟨_, _, _, _, hq3, _⟩ := id hq2
  refine ⟨_, rfl, ?_⟩
  refine ite2 (fun c => ?_) (fun c => ?_)
  · have c : e = false := by simpa using c
    refine ⟨_, rfl, _, rfl, _, _, _, _, _, _, rfl, rfl, hp3, hq3, p, q, g, g', κ, m, rfl, hp2, hq2, k1, k2, hm, fun r3 H3 l3 hc3 nc3 => ?_⟩
    obtain ⟨_, _, _, _, hr3, _⟩ := id hc3
    refine ⟨_, _, _, rfl, hr3, r3, _, κ, m, rfl, hc3, k1.bin k2 fun a b => a && !b, hm, fun e2 H4 l4 he2 => ⟨e2, rfl, qq _ H4 ?_ (((l1.trans l2).trans l3).trans l4)⟩⟩
    rw [he2]
    constructor
    · intro h
      exact ⟨subC_any.mpr fun h2 => (by rw [he.mpr h2] at c; cases c), fun h2 => subC_any.mp h2 h⟩
    · rintro ⟨_, h2⟩
      exact Classical.byContradiction fun h3 => h2 (subC_any.mpr h3)
  · have c : e = true := by simpa using c
    refine qq false H2 ⟨fun h => (by cases h), fun h => absurd (he.mp c) (subC_any.mp h.1)⟩ (l1.trans l2)
abbrev s_Chart___eq__ : Stmt := inClass (top 28) 15
abbrev N_Chart___eq__ : List Str := ["self", "other"]
abbrev P_Chart___eq__ : List Str := ["self", "other"]
theorem sc_Chart___eq__ : FnScope N_Chart___eq__ P_Chart___eq__ (C8.fnScope s_Chart___eq__) := fnScope_by (by decide +kernel)
theorem q_ceq {C X : Addr} (T : Txt K mg) (D : DSC K mg C) (DC : DCC K mg X) (M : MetOf K X "__eq__" "Chart.__eq__" s_Chart___eq__ P_Chart___eq__) (Q_Chart___xor__ : Met P w K mg base 11 X "__xor__" (sp_cbin C X fun a b => a != b) []) (Q_Chart___bool__ : Met P w K mg base 3 X "__bool__" (sp_cbool C X) []) : Met P w K mg base 12 X "__eq__" (sp_crel C X fun g g' => ∀ d a, g d a = g' d a) [] := by
  obtain ⟨g_, fd, M, F, B⟩ := M
  refine met0 DC.cl M F B sc_Chart___eq__ (fun vs H Q E h => by obtain ⟨_, _, _, _, _, _, rfl, _⟩ := h; rfl) (fun cdv A outer s H vs Q E hr h => ?_)
  obtain ⟨p, q, g, g', κ, m, rfl, hp, hq, k1, k2, hm, qq⟩ := h
  have nd := sc_Chart___eq__.nd
  refine ⟨_, (pss_one (ps_ret (pe_and (pe_callB call_isi (by rfl) T.b_isinstance (by decide +kernel) (pa_cons (pv 1) (pa_cons (pe_gc rfl DC.g) pa_nil))) (pe_one (pe_not_own Q_Chart___bool__ hr (by decide) (pe_op (op_ownM DC.sf Q_Chart___xor__ hr (by decide)) (pv 0) (pv 1))))))), ?_⟩
  obtain ⟨_, _, _, _, hp1, _⟩ := id hp
  obtain ⟨_, _, _, _, hq1, _⟩ := id hq
  refine ⟨_, rfl, _, _, _, _, true, rfl, .own X, .base (.ins hq1 DC.cl DC.ha DC.hn DC.htk DC.ob), DC.isi, true, rfl, ?_⟩
  refine ⟨_, rfl, _, rfl, _, _, _, _, _, _, rfl, rfl, hp1, hq1, p, q, g, g', κ, m, rfl, hp, hq, k1, k2, hm, fun r H1 l1 hc nc => ?_⟩
  obtain ⟨_, _, _, _, hr1, _⟩ := id hc
  refine ⟨_, _, _, rfl, hr1, r, _, κ, m, rfl, hc, k1.bin k2 fun a b => a != b, hm, fun e H2 l2 he => ⟨e, rfl, ?_⟩⟩
  exact qq _ H2 (not_iff he eqC_any) (l1.trans l2)
end
end Od
end
section
set_option Elab.async false
set_option linter.all false
set_option maxRecDepth 100000
set_option maxHeartbeats 2000000
set_option autoImplicit false
/-! the texts of forms, as data -/
namespace Od
open PySem PySem.Spec PyProof.Rows L2 C8 Day
theorem sg_lt (l : List Bool) : ∀ c ∈ l.map sg, c < 1114112 := fun c hc => by
  obtain ⟨b, _, rfl⟩ := List.mem_map.mp hc
  cases b <;> decide
theorem numS_lt (n : Int) : ∀ c ∈ (numS n).cps.toList, c < 1114112 := fun c hc => by
  have dig : ∀ c ∈ TL.numL n.natAbs, c < 1114112 := fun c hc => by
    have := TL.numL_digits _ c hc
    omega
  rw [numS_tl] at hc
  split at hc
  · rcases List.mem_cons.mp hc with rfl | hc
    · decide
    · exact dig c hc
  · exact dig c hc
theorem midS_lt (m : List Bool) : ∀ c ∈ (midS m).cps.toList, c < 1114112 := fun c hc => by
  unfold midS at hc
  split at hc
  · have : (("-" : Str)).cps.toList = [45] := by decide +kernel
    rw [this] at hc
    obtain rfl := List.mem_singleton.mp hc
    decide
  · rw [rowS_tl] at hc
    exact sg_lt _ c hc
theorem strF_ok (F : Frm) : PyData.strOk (strF F) = true := by
  unfold PyData.strOk
  rw [← Array.all_toList, List.all_eq_true]
  intro c hc
  rw [strF_tl] at hc
  refine decide_eq_true ?_
  simp only [List.mem_append, List.mem_cons] at hc
  rcases hc with h | h | h | h | h | h | h
  · exact sg_lt _ c h
  · omega
  · exact numS_lt _ c h
  · omega
  · exact midS_lt _ c h
  · omega
  · exact sg_lt _ c h
/-- texts that are as texts are -/
theorem eqv_txt : ∀ r s : List Str, PyData.eqvAll (r.map PyData.str) (s.map PyData.str) = decide (r = s)
  | [], [] => rfl
  | [], _ :: _ => rfl
  | _ :: _, [] => rfl
  | x :: r, y :: s => by
    show ((x == y) && PyData.eqvAll (r.map PyData.str) (s.map PyData.str)) = _
    rw [eqv_txt r s]
    by_cases h1 : x = y <;> by_cases h2 : r = s <;> simp [h1, h2]
theorem eqv_txts (r s : List Str) : PyData.eqv (.list (r.map PyData.str)) (.list (s.map PyData.str)) = decide (r = s) := eqv_txt r s
theorem lay_txts : ∀ ts : List Str, (∀ t ∈ ts, PyData.strOk t = true) → PyData.canLayAll0 (ts.map PyData.str) = true ∧ PyData.depthAll (ts.map PyData.str) = 0
  | [], _ => ⟨rfl, rfl⟩
  | t :: ts, h => by
    obtain ⟨h1, h2⟩ := lay_txts ts fun x hx => h x (List.mem_cons_of_mem _ hx)
    exact ⟨by simp [PyData.canLayAll0, PyData.canLay0, h1, h t List.mem_cons_self], by simp [PyData.depthAll, PyData.depth, h2]⟩
theorem shaped_txts (ts : List Str) (h : ∀ t ∈ ts, PyData.strOk t = true) : SeqAt.shaped (.list (ts.map PyData.str)) = true := by
  obtain ⟨h1, h2⟩ := lay_txts ts h
  have e1 : (PyData.list (ts.map PyData.str)).canLay0 = true := h1
  have e2 : (PyData.list (ts.map PyData.str)).depth = PyData.depthAll (ts.map PyData.str) + 1 := rfl
  unfold SeqAt.shaped
  rw [e1, e2, h2]
  rfl
theorem dp_txt {K : PySem.W.Frag} {H : Hp} : ∀ ts : List Str, DpAll K H (ts.map V.str) (ts.map PyData.str)
  | [] => .nil
  | t :: ts => .cons (.str t) (dp_txt ts)
end Od
end
section
set_option Elab.async false
set_option linter.all false
set_option autoImplicit false
/-! least lists that have one of each: plain -/
namespace Los
section
variable {α : Type} {lt : α → α → Prop}
def Sub (a b : List α) : Prop := ∀ x ∈ a, x ∈ b
theorem Sub.refl (a : List α) : Sub a a := fun _ h => h
theorem Sub.tr {a b c : List α} (h : Sub a b) (k : Sub b c) : Sub a c := fun x hx => k x (h x hx)
structure SO (lt : α → α → Prop) : Prop where
  irr : ∀ a, ¬ lt a a
  tr : ∀ a b c, lt a b → lt b c → lt a c
theorem ext (o : SO lt) : ∀ {a b : List α}, a.Pairwise lt → b.Pairwise lt → (∀ x, x ∈ a ↔ x ∈ b) → a = b
  | [], [], _, _, _ => rfl
  | [], y :: b, _, _, h => absurd ((h y).mpr List.mem_cons_self) (by simp)
  | x :: a, [], _, _, h => absurd ((h x).mp List.mem_cons_self) (by simp)
  | x :: a, y :: b, pa, pb, h => by
    have pa' := List.pairwise_cons.mp pa
    have pb' := List.pairwise_cons.mp pb
    have e : x = y := by
      rcases List.mem_cons.mp ((h x).mp List.mem_cons_self) with e | e
      · exact e
      rcases List.mem_cons.mp ((h y).mpr List.mem_cons_self) with f | f
      · exact f.symm
      exact absurd (o.tr _ _ _ (pa'.1 y f) (pb'.1 x e)) (o.irr x)
    subst e
    rw [ext o pa'.2 pb'.2 fun z => ?_]
    constructor
    · intro hz
      rcases List.mem_cons.mp ((h z).mp (List.mem_cons_of_mem _ hz)) with e | e
      · subst e; exact absurd (pa'.1 z hz) (o.irr z)
      · exact e
    · intro hz
      rcases List.mem_cons.mp ((h z).mpr (List.mem_cons_of_mem _ hz)) with e | e
      · subst e; exact absurd (pb'.1 z hz) (o.irr z)
      · exact e
theorem SO.nodup (o : SO lt) {a : List α} (h : a.Pairwise lt) : a.Nodup := List.nodup_iff_pairwise_ne.mpr (h.imp (S := fun a b => a ≠ b) fun {x y} l e => by rw [← e] at l; exact o.irr x l)
end
section
variable {α : Type} [DecidableEq α] {lt : α → α → Prop}
theorem sub_len : ∀ {a b : List α}, a.Nodup → Sub a b → a.length ≤ b.length
  | [], b, _, _ => Nat.zero_le _
  | x :: a, b, nd, h => by
    have nd' := List.nodup_cons.mp nd
    have hx := h x List.mem_cons_self
    have := sub_len (a := a) (b := b.erase x) nd'.2 fun y hy => (List.mem_erase_of_ne (fun e => nd'.1 (by rw [← e]; exact hy))).mpr (h y (List.mem_cons_of_mem _ hy))
    rw [List.length_erase_of_mem hx] at this
    have := List.length_pos_of_mem hx
    rw [List.length_cons]
    omega
theorem sub_eq (o : SO lt) {a b : List α} (pa : a.Pairwise lt) (pb : b.Pairwise lt) (h : Sub a b) (l : b.length ≤ a.length) : a = b := by
  refine ext o pa pb fun x => ⟨h x, fun hx => ?_⟩
  refine Classical.byContradiction fun c => ?_
  have := sub_len (a := x :: a) (b := b) (List.nodup_cons.mpr ⟨c, o.nodup pa⟩) fun y hy => by
    rcases List.mem_cons.mp hy with e | e
    · subst e; exact hx
    · exact h y e
  rw [List.length_cons] at this
  omega
theorem sub_lt (o : SO lt) {a b : List α} (pa : a.Pairwise lt) (pb : b.Pairwise lt) (h : Sub a b) (ne : a ≠ b) : a.length < b.length :=
  Nat.lt_of_not_le fun l => ne (sub_eq o pa pb h l)
/-! ### the least ones of a list of rows -/
/-- y is of R, and no other one of R is a part of it -/
def Lst (R : List (List α)) (y : List α) : Prop := y ∈ R ∧ ∀ z ∈ R, Sub z y → z = y
theorem lst_ex (o : SO lt) {R : List (List α)} (hR : ∀ r ∈ R, r.Pairwise lt) : ∀ (n : Nat) (z : List α), z.length ≤ n → z ∈ R → ∃ b, Lst R b ∧ Sub b z := by
  intro n
  induction n with
  | zero =>
    intro z hz hm
    refine ⟨z, ⟨hm, fun w hw hs => ?_⟩, Sub.refl z⟩
    refine sub_eq o (hR w hw) (hR z hm) hs (by omega)
  | succ n ih =>
    intro z hz hm
    by_cases c : ∀ w ∈ R, Sub w z → w = z
    · exact ⟨z, ⟨hm, c⟩, Sub.refl z⟩
    · obtain ⟨w, h1⟩ := Classical.not_forall.mp c
      obtain ⟨hw, h2⟩ := Classical.not_imp.mp h1
      obtain ⟨hs, hne⟩ := Classical.not_imp.mp h2
      have := sub_lt o (hR w hw) (hR z hm) hs hne
      obtain ⟨b, hb, hs2⟩ := ih w (by omega) hw
      exact ⟨b, hb, hs2.tr hs⟩
def keep1 (acc : List (List α)) (r : List α) : List (List α) := if acc.any (fun b => b.all fun x => decide (x ∈ r)) then acc else acc ++ [r]
theorem keep1_iff (acc : List (List α)) (r : List α) : (acc.any (fun b => b.all fun x => decide (x ∈ r))) = true ↔ ∃ b ∈ acc, Sub b r := by
  rw [List.any_eq_true]
  constructor
  · rintro ⟨b, hb, h⟩
    exact ⟨b, hb, fun x hx => of_decide_eq_true (List.all_eq_true.mp h x hx)⟩
  · rintro ⟨b, hb, h⟩
    exact ⟨b, hb, List.all_eq_true.mpr fun x hx => decide_eq_true (h x hx)⟩
def keep (R : List (List α)) : List (List α) := R.foldl keep1 []
theorem keep_snoc (P : List (List α)) (r : List α) : keep (P ++ [r]) = keep1 (keep P) r := by
  unfold keep
  rw [List.foldl_append]
  rfl
/-- rows in an order in which a part never comes behind -/
structure Good (lt : α → α → Prop) (R : List (List α)) : Prop where
  asc : ∀ r ∈ R, r.Pairwise lt
  ord : R.Pairwise fun a b => ¬ Sub b a
theorem Good.init {P : List (List α)} {r : List α} (g : Good lt (P ++ [r])) : Good lt P ∧ r.Pairwise lt ∧ ∀ y ∈ P, ¬ Sub r y := by
  have := List.pairwise_append.mp g.ord
  exact ⟨⟨fun x hx => g.asc x (List.mem_append_left _ hx), this.1⟩, g.asc r (by simp), fun y hy => this.2.2 y hy r (by simp)⟩
theorem keep_main (o : SO lt) : ∀ (n : Nat) (R : List (List α)), R.length = n → Good lt R → (keep R).Sublist R ∧ ∀ y, y ∈ keep R ↔ Lst R y := by
  intro n
  induction n with
  | zero =>
    intro R hl g
    have : R = [] := List.length_eq_zero_iff.mp hl
    subst this
    exact ⟨List.Sublist.refl _, fun y => ⟨fun h => (by simp [keep] at h), fun h => absurd h.1 (by simp)⟩⟩
  | succ n ih =>
    intro R hl g
    have hne : R ≠ [] := fun e => by subst e; simp at hl
    obtain ⟨P, r, rfl⟩ : ∃ P r, R = P ++ [r] := ⟨R.dropLast, R.getLast hne, (List.dropLast_concat_getLast hne).symm⟩
    obtain ⟨gP, ar, nr⟩ := g.init
    obtain ⟨sP, mP⟩ := ih P (by simp at hl; omega) gP
    have rP : r ∉ P := fun h => nr r h (Sub.refl r)
    rw [keep_snoc]
    unfold keep1
    by_cases c : ((keep P).any fun b => b.all fun x => decide (x ∈ r)) = true
    · rw [if_pos c]
      obtain ⟨b, hb, hs⟩ := (keep1_iff _ _).mp c
      have hbP := (mP b).mp hb
      refine ⟨sP.trans (List.sublist_append_left _ _), fun y => (mP y).trans ⟨fun h => ⟨List.mem_append_left _ h.1, fun z hz hzs => ?_⟩, fun h => ?_⟩⟩
      · rcases List.mem_append.mp hz with e | e
        · exact h.2 z e hzs
        · rw [List.mem_singleton.mp e] at hzs
          exact absurd hzs (nr y h.1)
      · rcases List.mem_append.mp h.1 with e | e
        · exact ⟨e, fun z hz => h.2 z (List.mem_append_left _ hz)⟩
        · rw [List.mem_singleton.mp e] at h
          have := h.2 b (List.mem_append_left _ hbP.1) hs
          exact absurd (this ▸ hbP.1) rP
    · rw [if_neg c]
      refine ⟨sP.append (List.Sublist.refl _), fun y => ?_⟩
      rw [List.mem_append, mP]
      constructor
      · rintro (h | h)
        · refine ⟨List.mem_append_left _ h.1, fun z hz hzs => ?_⟩
          rcases List.mem_append.mp hz with e | e
          · exact h.2 z e hzs
          · rw [List.mem_singleton.mp e] at hzs
            exact absurd hzs (nr y h.1)
        · have e := List.mem_singleton.mp h
          subst e
          refine ⟨by simp, fun z hz hzs => ?_⟩
          rcases List.mem_append.mp hz with e | e
          · obtain ⟨b, hb, hs⟩ := lst_ex o gP.asc _ z (Nat.le_refl _) e
            exact absurd ((keep1_iff _ _).mpr ⟨b, (mP b).mpr hb, hs.tr hzs⟩) c
          · exact List.mem_singleton.mp e
      · intro h
        rcases List.mem_append.mp h.1 with e | e
        · exact .inl ⟨e, fun z hz => h.2 z (List.mem_append_left _ hz)⟩
        · exact .inr e
theorem keep_iff (o : SO lt) {R : List (List α)} (g : Good lt R) (y : List α) : y ∈ keep R ↔ Lst R y := (keep_main o _ R rfl g).2 y
theorem keep_sub (o : SO lt) {R : List (List α)} (g : Good lt R) : (keep R).Sublist R := (keep_main o _ R rfl g).1
/-! ### hits -/
def Meets (c r : List α) : Prop := ∃ n ∈ c, n ∈ r
def Hit (cs : List (List α)) (r : List α) : Prop := ∀ c ∈ cs, Meets c r
def MinH (lt : α → α → Prop) (cs : List (List α)) (r : List α) : Prop := r.Pairwise lt ∧ Hit cs r ∧ ∀ z : List α, z.Pairwise lt → Hit cs z → Sub z r → z = r
theorem Meets.sub {c r z : List α} (h : Meets c r) (s : Sub r z) : Meets c z := by
  obtain ⟨n, h1, h2⟩ := h
  exact ⟨n, h1, s n h2⟩
theorem min_ex (o : SO lt) {cs : List (List α)} : ∀ (n : Nat) (z : List α), z.length ≤ n → z.Pairwise lt → Hit cs z → ∃ r, MinH lt cs r ∧ Sub r z := by
  intro n
  induction n with
  | zero =>
    intro z hz pz hh
    exact ⟨z, ⟨pz, hh, fun w pw hw hs => sub_eq o pw pz hs (by omega)⟩, Sub.refl z⟩
  | succ n ih =>
    intro z hz pz hh
    by_cases c : ∀ w : List α, w.Pairwise lt → Hit cs w → Sub w z → w = z
    · exact ⟨z, ⟨pz, hh, c⟩, Sub.refl z⟩
    · obtain ⟨w, h1⟩ := Classical.not_forall.mp c
      obtain ⟨pw, h2⟩ := Classical.not_imp.mp h1
      obtain ⟨hw, h3⟩ := Classical.not_imp.mp h2
      obtain ⟨hs, hne⟩ := Classical.not_imp.mp h3
      have := sub_lt o pw pz hs hne
      obtain ⟨b, hb, hs2⟩ := ih w (by omega) pw hw
      exact ⟨b, hb, hs2.tr hs⟩
/-- what the program makes of a row and a coalition -/
def Grow (lt : α → α → Prop) (c r r' : List α) : Prop := (Meets c r ∧ r' = r) ∨ (¬ Meets c r ∧ ∃ n ∈ c, r'.Pairwise lt ∧ ∀ x, x ∈ r' ↔ x ∈ r ∨ x = n)
theorem berge (o : SO lt) {cs F L S : List (List α)} {c : List α} (hF : ∀ r, r ∈ F ↔ MinH lt cs r) (hL : ∀ r', r' ∈ L → ∃ r ∈ F, Grow lt c r r') (hL2 : ∀ r ∈ F, ∀ r', Grow lt c r r' → r' ∈ L) (hS : ∀ y, y ∈ S ↔ Lst L y) (y : List α)
    (mk : ∀ (r : List α) (n : α), r ∈ F → n ∈ c → n ∉ r → ∃ r' : List α, r'.Pairwise lt ∧ ∀ x, x ∈ r' ↔ x ∈ r ∨ x = n) : y ∈ S ↔ MinH lt (cs ++ [c]) y := by
  have hit_iff : ∀ z, Hit (cs ++ [c]) z ↔ Hit cs z ∧ Meets c z := fun z => by
    constructor
    · exact fun h => ⟨fun d hd => h d (List.mem_append_left _ hd), h c (by simp)⟩
    · rintro ⟨h1, h2⟩ d hd
      rcases List.mem_append.mp hd with e | e
      · exact h1 d e
      · rw [List.mem_singleton.mp e]; exact h2
  have good : ∀ z ∈ L, z.Pairwise lt ∧ Hit (cs ++ [c]) z := fun z hz => by
    obtain ⟨r, hr, g⟩ := hL z hz
    have m := (hF r).mp hr
    rcases g with ⟨g1, rfl⟩ | ⟨_, n, hn, g3, g4⟩
    · exact ⟨m.1, (hit_iff _).mpr ⟨m.2.1, g1⟩⟩
    · refine ⟨g3, (hit_iff _).mpr ⟨fun d hd => (m.2.1 d hd).sub fun x hx => (g4 x).mpr (.inl hx), n, hn, (g4 n).mpr (.inr rfl)⟩⟩
  have cov : ∀ z : List α, z.Pairwise lt → Hit (cs ++ [c]) z → ∃ w ∈ L, Sub w z := fun z pz hz => by
    obtain ⟨h1, h2⟩ := (hit_iff z).mp hz
    obtain ⟨r, mr, rs⟩ := min_ex o _ z (Nat.le_refl _) pz h1
    have hr := (hF r).mpr mr
    by_cases d : Meets c r
    · exact ⟨r, hL2 r hr r (.inl ⟨d, rfl⟩), rs⟩
    · obtain ⟨n, hn, hnz⟩ := h2
      obtain ⟨r', p', m'⟩ := mk r n hr hn fun h => d ⟨n, hn, h⟩
      refine ⟨r', hL2 r hr r' (.inr ⟨d, n, hn, p', m'⟩), fun x hx => ?_⟩
      rcases (m' x).mp hx with e | e
      · exact rs x e
      · rw [e]; exact hnz
  rw [hS]
  constructor
  · rintro ⟨h1, h2⟩
    obtain ⟨g1, g2⟩ := good y h1
    refine ⟨g1, g2, fun z pz hz hs => ?_⟩
    obtain ⟨w, hw, ws⟩ := cov z pz hz
    have := h2 w hw (ws.tr hs)
    subst this
    exact sub_eq o pz g1 hs (sub_len (o.nodup g1) ws)
  · rintro ⟨h1, h2, h3⟩
    obtain ⟨w, hw, ws⟩ := cov y h1 h2
    obtain ⟨g1, g2⟩ := good w hw
    have := h3 w g1 g2 ws
    subst this
    exact ⟨hw, fun z hz hs => h3 z (good z hz).1 (good z hz).2 hs⟩
/-- a least hit lies within any row that has all coalitions -/
theorem min_within (o : SO lt) {cs : List (List α)} {U y : List α} (hU : ∀ c ∈ cs, Sub c U) (h : MinH lt cs y) : Sub y U := by
  have e := h.2.2 (y.filter fun x => decide (x ∈ U)) (h.1.sublist List.filter_sublist) (fun c hc => by
    obtain ⟨n, h1, h2⟩ := h.2.1 c hc
    exact ⟨n, h1, List.mem_filter.mpr ⟨h2, decide_eq_true (hU c hc n h1)⟩⟩) (fun x hx => (List.mem_filter.mp hx).1)
  intro x hx
  rw [← e] at hx
  exact of_decide_eq_true (List.mem_filter.mp hx).2
/-- the least hits among all parts of U -/
theorem due_iff (o : SO lt) {cs AL : List (List α)} {U y : List α} (hU : ∀ c ∈ cs, Sub c U) (hA : ∀ r, r ∈ AL ↔ r.Pairwise lt ∧ Sub r U) {hits : List (List α)} (hh : ∀ r, r ∈ hits ↔ r ∈ AL ∧ Hit cs r) : Lst hits y ↔ MinH lt cs y := by
  constructor
  · rintro ⟨h1, h2⟩
    obtain ⟨ha, hc⟩ := (hh y).mp h1
    obtain ⟨pa, sa⟩ := (hA y).mp ha
    refine ⟨pa, hc, fun z pz hz hs => h2 z ((hh z).mpr ⟨(hA z).mpr ⟨pz, hs.tr sa⟩, hz⟩) hs⟩
  · intro h
    have sU := min_within o hU h
    refine ⟨(hh y).mpr ⟨(hA y).mpr ⟨h.1, sU⟩, h.2.1⟩, fun z hz hs => ?_⟩
    obtain ⟨ha, hc⟩ := (hh z).mp hz
    exact h.2.2 z ((hA z).mp ha).1 hc hs
/-! ### by sizes -/
def bySize (n : Nat) (R : List (List α)) : List (List α) := (List.range n).flatMap fun k => R.filter fun r => decide (r.length = k)
theorem mem_bySize {n : Nat} {R : List (List α)} {r : List α} : r ∈ bySize n R ↔ r ∈ R ∧ r.length < n := by
  unfold bySize
  simp only [List.mem_flatMap, List.mem_range, List.mem_filter, decide_eq_true_eq]
  constructor
  · rintro ⟨k, hk, hr, e⟩; exact ⟨hr, by omega⟩
  · rintro ⟨hr, h⟩; exact ⟨_, h, hr, rfl⟩
theorem bySize_good (o : SO lt) {R : List (List α)} (hR : ∀ r ∈ R, r.Pairwise lt) (nd : R.Nodup) : ∀ n, Good lt (bySize n R)
  | 0 => ⟨fun r hr => by simp [bySize] at hr, by simp [bySize]⟩
  | n + 1 => by
    have ih := bySize_good o hR nd n
    refine ⟨fun r hr => hR r (mem_bySize.mp hr).1, ?_⟩
    have e : bySize (n + 1) R = bySize n R ++ R.filter fun r => decide (r.length = n) := by
      unfold bySize
      rw [List.range_succ, List.flatMap_append]
      simp
    rw [e]
    refine List.pairwise_append.mpr ⟨ih.ord, ?_, ?_⟩
    · refine List.Pairwise.imp_of_mem (R := fun a b => a ≠ b) (fun {a b} ha hb ne hs => ?_) (List.nodup_iff_pairwise_ne.mp (nd.sublist List.filter_sublist))
      obtain ⟨h1, h2⟩ := List.mem_filter.mp ha
      obtain ⟨h3, h4⟩ := List.mem_filter.mp hb
      have e1 := of_decide_eq_true h2
      have e2 := of_decide_eq_true h4
      exact ne (sub_eq o (hR b h3) (hR a h1) hs (by omega)).symm
    · intro a ha b hb hs
      obtain ⟨h1, h2⟩ := mem_bySize.mp ha
      obtain ⟨h3, h4⟩ := List.mem_filter.mp hb
      have e2 := of_decide_eq_true h4
      have := sub_len (o.nodup (hR b h3)) hs
      omega
/-! ### all parts -/
def subs : List α → List (List α)
  | [] => [[]]
  | a :: l => subs l ++ (subs l).map (a :: ·)
theorem subs_len : ∀ l : List α, (subs l).length = 2 ^ l.length
  | [] => rfl
  | a :: l => by
    show (subs l ++ (subs l).map (a :: ·)).length = _
    rw [List.length_append, List.length_map, subs_len l, List.length_cons, Nat.pow_succ]
    omega
theorem mem_subs (o : SO lt) : ∀ {U r : List α}, U.Pairwise lt → r.Pairwise lt → Sub r U → r ∈ subs U
  | [], r, _, _, h => by
    have : r = [] := List.eq_nil_iff_forall_not_mem.mpr fun x hx => absurd (h x hx) (by simp)
    subst this
    exact List.mem_cons_self
  | a :: U, [], pU, pr, h => by
    refine List.mem_append_left _ (mem_subs o (List.pairwise_cons.mp pU).2 List.Pairwise.nil fun x hx => by simp at hx)
  | a :: U, x :: r, pU, pr, h => by
    have pU' := List.pairwise_cons.mp pU
    have pr' := List.pairwise_cons.mp pr
    by_cases e : x = a
    · subst e
      refine List.mem_append_right _ (List.mem_map.mpr ⟨r, mem_subs o pU'.2 pr'.2 fun y hy => ?_, rfl⟩)
      rcases List.mem_cons.mp (h y (List.mem_cons_of_mem _ hy)) with q | q
      · subst q; exact absurd (pr'.1 y hy) (o.irr y)
      · exact q
    · refine List.mem_append_left _ (mem_subs o pU'.2 pr fun y hy => ?_)
      rcases List.mem_cons.mp (h y hy) with q | q
      · subst q
        rcases List.mem_cons.mp hy with f | f
        · exact absurd f.symm e
        · have hx := h x List.mem_cons_self
          rcases List.mem_cons.mp hx with g | g
          · exact absurd g e
          · exact absurd (o.tr _ _ _ (pr'.1 y f) (pU'.1 x g)) (o.irr x)
      · exact q
theorem rows_le (o : SO lt) {U : List α} (pU : U.Pairwise lt) {F : List (List α)} (nd : F.Nodup) (h : ∀ r ∈ F, r.Pairwise lt ∧ Sub r U) : F.length ≤ 2 ^ U.length := by
  rw [← subs_len U]
  exact sub_len nd fun r hr => mem_subs o pU (h r hr).1 (h r hr).2
theorem ins_ex (o : SO lt) (tri : ∀ a b, ¬ lt b a → a ≠ b → lt a b) : ∀ {r : List α} {n : α}, r.Pairwise lt → n ∉ r → ∃ r' : List α, r'.Pairwise lt ∧ ∀ x, x ∈ r' ↔ x ∈ r ∨ x = n
  | [], n, _, _ => ⟨[n], List.pairwise_singleton _ _, fun x => by simp⟩
  | y :: r, n, p, h => by
    have p' := List.pairwise_cons.mp p
    have hy : n ≠ y := fun e => h (by rw [e]; exact List.mem_cons_self)
    by_cases c : lt n y
    · refine ⟨n :: y :: r, List.pairwise_cons.mpr ⟨fun z hz => ?_, p⟩, fun x => by simp; constructor <;> (intro h; rcases h with h | h | h <;> simp [h])⟩
      rcases List.mem_cons.mp hz with e | e
      · rw [e]; exact c
      · exact o.tr _ _ _ c (p'.1 z e)
    · have c2 : lt y n := tri y n c hy.symm
      obtain ⟨r', q, m⟩ := ins_ex o tri (r := r) (n := n) p'.2 fun e => h (List.mem_cons_of_mem _ e)
      refine ⟨y :: r', List.pairwise_cons.mpr ⟨fun z hz => ?_, q⟩, fun x => ?_⟩
      · rcases (m z).mp hz with e | e
        · exact p'.1 z e
        · rw [e]; exact c2
      · rw [List.mem_cons, List.mem_cons, m, or_assoc]
end
end Los
end
section
set_option Elab.async false
set_option linter.all false
set_option maxRecDepth 100000
set_option maxHeartbeats 2000000
set_option autoImplicit false
/-! rows of texts: what they are, their order, their written forms -/
namespace Od
open PySem PySem.Spec PyProof.Rows L2 C8
abbrev Row := List Str
/-- the order of texts -/
def ltS (a b : Str) : Prop := a.cps.toList < b.cps.toList
theorem ltS_so : Los.SO ltS := ⟨fun a h => List.lt_irrefl _ h, fun a b c h k => List.lt_trans h k⟩
theorem ltS_tri {a b : Str} (h : ¬ ltS b a) (ne : a ≠ b) : ltS a b := by
  have h1 : a.cps.toList ≤ b.cps.toList := h
  rcases Classical.em (a.cps.toList < b.cps.toList) with c | c
  · exact c
  · have h2 : b.cps.toList ≤ a.cps.toList := c
    exact absurd (TL.ext_tl (List.le_antisymm h1 h2)) ne
theorem ltS_asc {ys : List Str} (h : sortedS ys = true) (nd : ys.Nodup) : ys.Pairwise ltS := by
  have key : ∀ (ys : List Str) (p : Str), risingS p ys = true → (p :: ys).Nodup → (p :: ys).Pairwise ltS := by
    intro ys
    induction ys with
    | nil => intro p _ _; exact List.pairwise_singleton _ _
    | cons x r ih =>
      intro p h nd
      have h : (!ltCps x.cps.toList p.cps.toList && risingS x r) = true := h
      rw [Bool.and_eq_true, Bool.not_eq_true', ltCps_eq, decide_eq_false_iff_not] at h
      have nd' := List.nodup_cons.mp nd
      have rest := ih x h.2 nd'.2
      have one : ltS p x := ltS_tri h.1 fun e => nd'.1 (by rw [e]; exact List.mem_cons_self)
      refine List.pairwise_cons.mpr ⟨fun y hy => ?_, rest⟩
      rcases List.mem_cons.mp hy with e | e
      · rw [e]; exact one
      · exact ltS_so.tr _ _ _ one ((List.pairwise_cons.mp rest).1 y e)
  cases ys with
  | nil => exact List.Pairwise.nil
  | cons x r => exact key r x h nd
/-- a name's signs are small letters -/
def Nm (z : Str) : Prop := (∀ c ∈ z.cps.toList, 97 ≤ c ∧ c ≤ 122) ∧ z.length ≤ 12
/-- a row: names, ascending -/
structure Rw (r : Row) : Prop where
  asc : r.Pairwise ltS
  nm : ∀ z ∈ r, Nm z
  few : r.length ≤ 8
/-- the signs by which rows are in order -/
def tx (s : Nat) (r : Row) : List Nat := (48 + r.length) :: r.flatMap fun z => s :: z.cps.toList
def rl (a b : Row) : Prop := tx 10 a < tx 10 b
theorem rl_so : Los.SO rl := ⟨fun a h => List.lt_irrefl _ h, fun a b c h k => List.lt_trans h k⟩
theorem rl_len {a b : Row} (h : a.length < b.length) : rl a b := List.cons_lt_cons_iff.mpr (.inl (by omega))
theorem flat_ne10 {z : Str} (h : Nm z) : ∀ c ∈ z.cps.toList, c ≠ 10 := fun c hc => by have := h.1 c hc; omega
theorem split10 : ∀ {x y u v : List Nat}, (∀ c ∈ x, c ≠ 10) → (∀ c ∈ y, c ≠ 10) → (u = [] ∨ u.head? = some 10) → (v = [] ∨ v.head? = some 10) → x ++ u = y ++ v → x = y ∧ u = v
  | [], [], u, v, _, _, _, _, e => ⟨rfl, e⟩
  | [], c :: y, u, v, _, hy, hu, _, e => by
    have e : u = c :: (y ++ v) := e
    rcases hu with h | h
    · rw [h] at e; cases e
    · rw [e] at h
      exact absurd (Option.some.inj h) (hy c List.mem_cons_self)
  | c :: x, [], u, v, hx, _, _, hv, e => by
    have e : c :: (x ++ u) = v := e
    rcases hv with h | h
    · rw [h] at e; cases e
    · rw [← e] at h
      exact absurd (Option.some.inj h) (hx c List.mem_cons_self)
  | c :: x, d :: y, u, v, hx, hy, hu, hv, e => by
    have e : c :: (x ++ u) = d :: (y ++ v) := e
    injection e with e1 e2
    obtain ⟨h1, h2⟩ := split10 (fun z hz => hx z (List.mem_cons_of_mem _ hz)) (fun z hz => hy z (List.mem_cons_of_mem _ hz)) hu hv e2
    exact ⟨by rw [e1, h1], h2⟩
theorem flat_head (b : Row) : (b.flatMap fun z : Str => 10 :: z.cps.toList) = [] ∨ (b.flatMap fun z : Str => 10 :: z.cps.toList).head? = some 10 := by
  cases b with
  | nil => exact .inl rfl
  | cons x b => exact .inr rfl
theorem flat_inj : ∀ {a b : Row}, (∀ z ∈ a, Nm z) → (∀ z ∈ b, Nm z) → (a.flatMap fun z : Str => 10 :: z.cps.toList) = (b.flatMap fun z : Str => 10 :: z.cps.toList) → a = b
  | [], [], _, _, _ => rfl
  | [], y :: b, _, _, e => by simp at e
  | x :: a, [], _, _, e => by simp at e
  | x :: a, y :: b, ha, hb, e => by
    rw [List.flatMap_cons, List.flatMap_cons, List.cons_append, List.cons_append] at e
    injection e with _ e
    obtain ⟨h1, h2⟩ := split10 (flat_ne10 (ha x List.mem_cons_self)) (flat_ne10 (hb y List.mem_cons_self)) (flat_head a) (flat_head b) e
    rw [TL.ext_tl h1, flat_inj (fun z hz => ha z (List.mem_cons_of_mem _ hz)) (fun z hz => hb z (List.mem_cons_of_mem _ hz)) h2]
theorem tx_inj {a b : Row} (ha : ∀ z ∈ a, Nm z) (hb : ∀ z ∈ b, Nm z) (e : tx 10 a = tx 10 b) : a = b := by
  unfold tx at e
  injection e with _ e
  exact flat_inj ha hb e
/-- from one written form to the other -/
def ph (c : Nat) : Nat := if c = 10 then 32 else c
def Al (l : List Nat) : Prop := ∀ c ∈ l, c = 10 ∨ 48 ≤ c
theorem ph_lt {c d : Nat} (hc : c = 10 ∨ 48 ≤ c) (hd : d = 10 ∨ 48 ≤ d) : (ph c < ph d ↔ c < d) ∧ (ph c = ph d ↔ c = d) := by
  unfold ph
  split <;> split <;> omega
theorem ph_list : ∀ {l m : List Nat}, Al l → Al m → (l.map ph < m.map ph ↔ l < m)
  | [], [], _, _ => by simp
  | [], d :: m, _, _ => by simp
  | c :: l, [], _, _ => by simp
  | c :: l, d :: m, hl, hm => by
    obtain ⟨p1, p2⟩ := ph_lt (hl c List.mem_cons_self) (hm d List.mem_cons_self)
    rw [List.map_cons, List.map_cons, List.cons_lt_cons_iff, List.cons_lt_cons_iff, p1, p2, ph_list (fun z hz => hl z (List.mem_cons_of_mem _ hz)) (fun z hz => hm z (List.mem_cons_of_mem _ hz))]
theorem tx_al {a : Row} (ha : ∀ z ∈ a, Nm z) : Al (tx 10 a) := fun c hc => by
  unfold tx at hc
  rcases List.mem_cons.mp hc with e | e
  · omega
  · obtain ⟨z, hz, h⟩ := List.mem_flatMap.mp e
    rcases List.mem_cons.mp h with f | f
    · exact .inl f
    · have := (ha z hz).1 c f
      omega
theorem tx_ph {a : Row} (ha : ∀ z ∈ a, Nm z) : (tx 10 a).map ph = tx 32 a := by
  unfold tx
  rw [List.map_cons, List.map_flatMap]
  have e : ph (48 + a.length) = 48 + a.length := by unfold ph; rw [if_neg (by omega)]
  rw [e]
  congr 1
  induction a with
  | nil => rfl
  | cons x a ih =>
    rw [List.flatMap_cons, List.flatMap_cons, ih (fun z hz => ha z (List.mem_cons_of_mem _ hz)) (by unfold ph; rw [if_neg (by omega)])]
    congr 1
    rw [List.map_cons]
    congr 1
    have : x.cps.toList.map ph = x.cps.toList.map id := List.map_congr_left fun c hc => by
      have := (ha x List.mem_cons_self).1 c hc
      unfold ph
      rw [if_neg (by omega)]
      rfl
    rw [this, List.map_id]
theorem rl_iff {a b : Row} (ha : ∀ z ∈ a, Nm z) (hb : ∀ z ∈ b, Nm z) : tx 32 a < tx 32 b ↔ rl a b := by
  rw [← tx_ph ha, ← tx_ph hb, ph_list (tx_al ha) (tx_al hb)]
  exact Iff.rfl
/-! ### rows in the heap -/
/-- the list p holds the texts of r -/
def IsRow (H : Hp) (p : Addr) (r : Row) : Prop := H p = some (.lst (r.map V.str))
theorem IsRow.le {H H' : Hp} {p : Addr} {r : Row} (h : IsRow H p r) (l : Le H H') : IsRow H' p r := l _ _ h
abbrev PR := List (Addr × Row)
def Prs (H : Hp) (ps : PR) : Prop := ∀ x ∈ ps, IsRow H x.1 x.2
theorem Prs.le {H H' : Hp} {ps : PR} (h : Prs H ps) (l : Le H H') : Prs H' ps := fun x hx => (h x hx).le l
def refs (ps : PR) : List V := ps.map fun x => V.ref x.1
def rows (ps : PR) : List Row := ps.map (·.2)
theorem refs_len (ps : PR) : (refs ps).length = ps.length := List.length_map _
theorem rows_len (ps : PR) : (rows ps).length = ps.length := List.length_map _
theorem eqV_str (a b : Str) : eqV (.str a) (.str b) = decide (a = b) := by
  by_cases h : a = b
  · subst h; rw [decide_eq_true rfl]; first | simp [eqV] | rfl
  · rw [decide_eq_false h]; first | (simp [eqV, h]) | rfl
theorem inV_str (z : Str) (r : Row) : inV (.str z) (r.map V.str) = decide (z ∈ r) := by
  unfold inV
  rw [List.any_map]
  rw [Bool.eq_iff_iff, List.any_eq_true, decide_eq_true_iff]
  constructor
  · rintro ⟨y, hy, h⟩
    have h : eqV (.str y) (.str z) = true := h
    rw [eqV_str] at h
    rw [← of_decide_eq_true h]; exact hy
  · intro h
    exact ⟨z, h, by show eqV (.str z) (.str z) = true; rw [eqV_str]; exact decide_eq_true rfl⟩
theorem flat_row (r : Row) : (r.map V.str).all flatV = true := by
  rw [List.all_map, List.all_eq_true]
  intro x _
  rfl
/-- the row at a value, read off the heap -/
def rowH (H : Hp) : V → Row
  | .ref p => match H p with
    | some (.lst xs) => xs.filterMap fun v => match v with | .str z => some z | _ => none
    | _ => []
  | _ => []
theorem rowH_of {H : Hp} {p : Addr} {r : Row} (h : IsRow H p r) : rowH H (.ref p) = r := by
  unfold rowH
  have h : H p = some (.lst (r.map V.str)) := h
  simp only [h]
  rw [List.filterMap_map]
  induction r with
  | nil => rfl
  | cons x r ih => rw [List.filterMap_cons]; show x :: _ = _; congr 1; exact List.filterMap_some
theorem rows_of {H : Hp} {ps : PR} (h : Prs H ps) {v : V} (hv : v ∈ refs ps) : ∃ x ∈ ps, v = .ref x.1 ∧ rowH H v = x.2 := by
  obtain ⟨x, hx, rfl⟩ := List.mem_map.mp hv
  exact ⟨x, hx, rfl, rowH_of (h x hx)⟩
theorem rows_eq {H : Hp} {ps : PR} (h : Prs H ps) : (refs ps).map (rowH H) = rows ps := by
  unfold refs rows
  rw [List.map_map]
  exact List.map_congr_left fun x hx => rowH_of (h x hx)
/-- values that are all rows, as pairs -/
def prOf (H : Hp) (vs : List V) : PR := vs.filterMap fun v => match v with | .ref p => some (p, rowH H v) | _ => none
theorem le_unlock {H H' : Hp} {d : Addr} {u : HO} {od : Obj} (h : H d = some u) (l : Le (upd H d (.frz od u)) H') : Le H (upd H' d u) := fun a o e => by
  by_cases c : a = d
  · subst c
    rw [h] at e
    rw [upd_self]
    exact e
  · rw [upd_ne c]
    exact l a o (by rw [upd_ne c]; exact e)
theorem gives_keys {kvs : List (Key × V)} : Gives (fun i H x H' => H' = H ∧ ∃ k v, kvs[i]? = some (k, v) ∧ x = kV k) (kvs.map fun e => kV e.1) := fun i H x H' h => ⟨h.1, by
  obtain ⟨_, k, v, hk, rfl⟩ := h
  rw [List.getElem?_map, hk]
  rfl⟩
/-- a comprehension whose turns give rows, new ones or ones that stood -/
theorem lc_rows {J : It} {G : Hp → Prop} {Y : Nat → Hp → V → Hp → Prop} {XS : List V} {n : Nat} (w : Walk J n G Y) (hY : Gives Y XS) {g : TG} {tt : TT} {te : TE} {vs : List Nat} {σ : L2.St} {H1 : Hp} {D : Addr} {Qd : Hp → Prop} (hD : H1 D = none) (hn : XS.length ≤ 16777216)
    (hG : ∀ H, Le H1 H → G H) (Rel : V → Row → Prop)
    (hs : ∀ x H, x ∈ XS → Le H1 H → (∃ acc, H D = some (.lst acc)) → ∀ N : V → Hp → Prop, (∀ p r H2, Le H H2 → p ≠ D → IsRow H2 p r → Rel x r → N (.ref p) H2) → g x (wipe σ vs) H fun σ2 H2 => wipe σ2 vs = wipe σ vs ∧ tt σ2 H2 fun b H3 => b = true ∧ te σ2 H3 fun y H4 => N y H4)
    (htt : ∀ σ2 H2 (M M' : Bool → Hp → Prop), (∀ b H, M b H → M' b H) → tt σ2 H2 M → tt σ2 H2 M')
    (hg : ∀ x σ H (M M' : L2.St → Hp → Prop), (∀ s H, M s H → M' s H) → g x σ H M → g x σ H M')
    (hd : ∀ H (qs : PR), Le H1 H → qs.length = XS.length → Prs H qs → (∀ q ∈ qs, q.1 ≠ D) → (∀ (i : Nat) x q, XS[i]? = some x → qs[i]? = some q → Rel x q.2) → H D = some (.lst (refs qs)) → Qd H) (en : n = XS.length := by first | rfl | simp) :
    ∃ W : Nat → Nat → Hp → Prop, (∃ m, W 0 m (upd H1 D (.lst []))) ∧ ∀ i m H, W i m H →
      (J.stop i H ∧ Qd H) ∨ (J.go i H ∧ ∃ Nx : Hp → Prop, (∀ H', Nx H' → ∃ m', m' < m ∧ W (i + 1) m' H') ∧ ∀ x H', J.yld i H x H' → g x (wipe σ vs) H' fun σ2 H2 => wipe σ2 vs = wipe σ vs ∧ tt σ2 H2 fun b H3 =>
        if b = true then te σ2 H3 fun y H4 => ∃ acc, H4 D = some (.lst acc) ∧ acc.length < sizeLine ∧ Nx (upd H4 D (.lst (acc ++ [y]))) else Nx H3) := by
  subst en
  refine lc_walk w hD (le_szl _ hn) hG (fun i H x H' h => by rw [(hY i H x H' h).1]; exact .refl) (fun i r H => ∃ p rw, r = some (V.ref p) ∧ p ≠ D ∧ IsRow H p rw ∧ ∀ x, XS[i]? = some x → Rel x rw) ?_ ?_ ?_
  · rintro i r H H' l hD2 ⟨p, rw, e, ne, h, hr⟩
    exact ⟨p, rw, e, ne, l _ _ ne h, hr⟩
  · intro i x H H' hi le acc y N hN
    obtain ⟨rfl, hx⟩ := hY i H x H' y
    refine hg _ _ _ _ _ ?_ (hs x H' (List.mem_of_getElem? hx) le acc (fun y H4 => N (some y) H4) fun p r H2 l ne hr rel => hN _ H2 l ⟨p, r, rfl, ne, hr, fun x' hx' => by rw [hx] at hx'; cases hx'; exact rel⟩)
    rintro s H2 ⟨e1, e2⟩
    refine ⟨e1, htt _ _ _ _ ?_ e2⟩
    rintro b H3 ⟨rfl, h⟩
    exact h
  · intro H rs le hl hr e
    have key : ∀ (rs : List (Option V)) (k : Nat), (∀ i r, rs[i]? = some r → ∃ p rw, r = some (V.ref p) ∧ p ≠ D ∧ IsRow H p rw ∧ ∀ x, XS[k + i]? = some x → Rel x rw) → ∃ qs : PR, rs.filterMap id = refs qs ∧ qs.length = rs.length ∧ Prs H qs ∧ (∀ q ∈ qs, q.1 ≠ D) ∧ ∀ (i : Nat) x q, XS[k + i]? = some x → qs[i]? = some q → Rel x q.2 := by
      intro rs
      induction rs with
      | nil => exact fun k _ => ⟨[], rfl, rfl, fun x hx => (by cases hx), fun x hx => (by cases hx), fun i x q _ hq => by simp at hq⟩
      | cons r rs ih =>
        intro k h
        obtain ⟨p, rw, rfl, ne, hp, rel⟩ := h 0 r rfl
        obtain ⟨qs, e1, e2, e3, e4, e5⟩ := ih (k + 1) fun i r hir => by
          obtain ⟨p, rw, h1, h2, h3, h4⟩ := h (i + 1) r hir
          exact ⟨p, rw, h1, h2, h3, fun x hx => h4 x (by rw [← hx]; congr 1; omega)⟩
        refine ⟨(p, rw) :: qs, by rw [List.filterMap_cons]; simp [e1, refs], by simp [e2], fun x hx => ?_, fun x hx => ?_, fun i x q hx hq => ?_⟩
        · rcases List.mem_cons.mp hx with c | c
          · rw [c]; exact hp
          · exact e3 x c
        · rcases List.mem_cons.mp hx with c | c
          · rw [c]; exact ne
          · exact e4 x c
        · cases i with
          | zero => cases hq; exact rel x hx
          | succ i => exact e5 i x q (by rw [← hx]; congr 1; omega) hq
    obtain ⟨qs, e1, e2, e3, e4, e5⟩ := key rs 0 fun i r hir => by
      obtain ⟨p, rw, h1, h2, h3, h4⟩ := hr i r hir
      exact ⟨p, rw, h1, h2, h3, fun x hx => h4 x (by rw [Nat.zero_add] at hx; exact hx)⟩
    refine hd H qs le (by rw [e2, hl]) e3 e4 (fun i x q hx hq => e5 i x q (by rw [Nat.zero_add]; exact hx) hq) ?_
    rw [e, e1]
end Od
end
section
set_option Elab.async false
set_option linter.all false
set_option maxRecDepth 100000
set_option maxHeartbeats 4000000
set_option autoImplicit false
/-! sets of texts: set(list of texts), sorted(set) (the kit's roads for ints, turned to texts) -/
namespace Od
open PySem PySem.Spec PyProof.Rows L2
def keyS (e : Int × Value) : Str := match e.2 with
  | .str k _ => k
  | _ => Str.empty
def GoodS (P : Program) (w : World) (e : Int × Value) : Prop := ∃ k tk, e.2 = Value.str k tk ∧ e.1 = (PySem.strKind P w).hash k
/-- the set of texts at a: S its members, n their number; its table rises and can be walked -/
def SetS (P : Program) (w : World) (h : Heap) (a : Addr) (S : Str → Bool) (n : Nat) : Prop :=
  ∃ o es ep t, h.get? a = some o ∧ o.ExactSet ∧ o.data = .set es ep t ∧ (∀ e ∈ es.toList, GoodS P w e) ∧ (es.toList.map keyS).Nodup ∧ (∀ k, S k = true ↔ k ∈ es.toList.map keyS) ∧
    es.size < scanBound ∧ t.fits es.size = true ∧ es.size = n ∧ Ris t.place.toList ∧ (w.params.followText "set-order" = true ∨ t.led = true)
section
variable {P : Program} {w : World} {h h' : Heap} {a : Addr} {S : Str → Bool} {n : Nat}
theorem SetS.at (R : SetS P w h a S n) (k : ∀ o, h.get? a = some o → h'.get? a = some o) : SetS P w h' a S n := by
  obtain ⟨o, es, ep, t, ho, r⟩ := R
  exact ⟨o, es, ep, t, k o ho, r⟩
theorem SetS.congr {S' : Str → Bool} (R : SetS P w h a S n) (e : ∀ k, S' k = S k) : SetS P w h a S' n := by
  have q : S' = S := funext e
  rw [q]
  exact R
theorem goodS_elems {l : List (Int × Value)} (g : ∀ e ∈ l, GoodS P w e) : ElemsOf (PySem.strKind P w) l := fun e he => by
  obtain ⟨k, tk, h1, h2⟩ := g e he
  exact ⟨⟨k, by rw [h1]; exact strKind_is P w k tk, h2⟩, by rw [h1] <;> rfl⟩
theorem goodS_is {e : Int × Value} (g : GoodS P w e) (k : Str) : (PySem.strKind P w).is k e.2 = true ↔ keyS e = k := by
  obtain ⟨k0, tk, h1, _⟩ := g
  unfold keyS
  rw [h1]
  simp [PySem.strKind, Value.isStrOf]
theorem goodS_mem {l : List (Int × Value)} (g : ∀ e ∈ l, GoodS P w e) (k : Str) : k ∈ l.map keyS ↔ ∃ e ∈ l, (PySem.strKind P w).is k e.2 = true := by
  rw [List.mem_map]
  exact ⟨fun ⟨e, he, q⟩ => ⟨e, he, (goodS_is (g e he) k).2 q⟩, fun ⟨e, he, q⟩ => ⟨e, he, (goodS_is (g e he) k).1 q⟩⟩
theorem setS_new_at (ho : h.get? a = some { cls := .type "set", dict := none, data := .set #[] 0 (.fresh 0 0 (!w.params.followText "set-order")) }) : SetS P w h a (fun _ => false) 0 :=
  ⟨_, #[], 0, _, ho, ⟨rfl, rfl, rfl⟩, rfl, (fun e he => by simp at he), (by simp), (fun k => by simp), (by decide), (by rfl), rfl, List.Pairwise.nil, by
    show _ ∨ (!w.params.followText "set-order") = true
    cases w.params.followText "set-order"
    · exact .inr rfl
    · exact .inl rfl⟩
end
section
variable {P : Program} {w : World} {A : Around} {E : Value → Shared → Prop} {s : Shared} {a : Addr} {S : Str → Bool} {n : Nat}
theorem setS_add_tail {g : Bool → Sem Unit} (hg : ∀ (b : Bool) (s₁ : Shared) (Q' : Unit → Shared → Prop), Q' () s₁ → wpAny (model P w) A (g b) Q' E s₁)
    {o : Obj} {es : Array (Int × Value)} {ep : Nat} {t : SetTable} (ho : s.heap.get? a = some o) (hex : o.ExactSet) (hd : o.data = .set es ep t)
    {es1 : Array (Int × Value)} {t2 : SetTable} {S' : Str → Bool} (g1 : ∀ e ∈ es1.toList, GoodS P w e) (nd1 : (es1.toList.map keyS).Nodup) (m1 : ∀ k, S' k = true ↔ k ∈ es1.toList.map keyS)
    (hb1 : es1.size < scanBound) (hf2 : t2.fits es1.size = true) (hr : Ris t2.place.toList) (hl : w.params.followText "set-order" = true ∨ t2.led = true) {wasDummy : Bool} {R : Option Bool → Shared → Prop}
    (hR : ∀ h', Heap.SameBut a s.heap h' → SetS P w h' a S' es1.size → R (some true) { s with heap := h' }) :
    wpAny (model P w) A (do
        storeSet a es1 t2
        if (!wasDummy && t2.tooFull) = true then do
            g (relayAll t2 es1 (SetTable.grown es1.size)).2.2
            storeSet a (relayAll t2 es1 (SetTable.grown es1.size)).1 (relayAll t2 es1 (SetTable.grown es1.size)).2.1
            pure (some true)
          else pure (some true)) R E s := by
  refine wpAny_bind (wpAny_storeSet_of ho hd ?_ (fits_of_scanBound hb1))
  have ho1 := store_at (es' := es1) (t' := t2) ho hd
  have sb1 := Heap.SameBut.update s.heap a (Obj.putSet es1 t2)
  split
  · have pm := relayAll_perm t2 es1 (SetTable.grown es1.size)
    have hf3 := relayAll_fits t2 es1 (SetTable.grown es1.size)
    have hr3 := relayAll_ris t2 es1 (SetTable.grown es1.size)
    have hl3 := relayAll_led t2 es1 (SetTable.grown es1.size)
    generalize relayAll t2 es1 (SetTable.grown es1.size) = Z at pm hf3 hr3 hl3 ⊢
    obtain ⟨es2, t3, gave⟩ := Z
    dsimp only at pm hf3 hr3 hl3 ⊢
    have hsz : es2.size = es1.size := by rw [← Array.length_toList, pm.length_eq, Array.length_toList]
    have hb2 : es2.size < scanBound := by rw [hsz]; exact hb1
    refine wpAny_bind (hg _ _ _ ?_)
    refine wpAny_bind (wpAny_storeSet_of ho1 rfl ?_ (fits_of_scanBound hb2))
    have ho2 := store_at (es' := es2) (t' := t3) ho1 rfl
    refine wpAny_pure (hR _ (sb1.trans (Heap.SameBut.update _ a _)) ?_)
    exact ⟨_, es2, _, t3, ho2, hex, rfl, fun e he => g1 e (pm.mem_iff.mp he), (pm.map keyS).nodup_iff.mpr nd1, fun k => (m1 k).trans (pm.map keyS).mem_iff.symm, hb2, hf3, hsz, hr3,
      hl.imp id fun z => by rw [hl3]; exact z⟩
  · exact wpAny_pure (hR _ sb1 ⟨_, es1, _, t2, ho1, hex, rfl, g1, nd1, m1, hb1, hf2, rfl, hr, hl⟩)
theorem setS_add_hashed {k : Str} {tk : Tok} {Q : Bool → Shared → Prop} (R : SetS P w s.heap a S n) (room : n + 1 < scanBound)
    (hQ : ∀ h', Heap.SameBut a s.heap h' → SetS P w h' a (fun j => S j || decide (j = k)) (if S k = true then n else n + 1) → Q (!S k) { s with heap := h' }) :
    wpAny (model P w) A (setAddHashed a (.str k tk) ((PySem.strKind P w).hash k)) Q E s := by
  obtain ⟨o, es, ep, t, ho, hex, hd, g, nd, hm, hb, hf, hn, hr, hl⟩ := R
  have hkey : (PySem.strKind P w).is k (.str k tk) = true := strKind_is P w k tk
  have hsc : (Value.str k tk).scannable = true := rfl
  have hel : ElemsOf (PySem.strKind P w) es.toList := goodS_elems g
  unfold setAddHashed setAddHashedIn
  refine wpAny_holding (wpAny_bind (wpAny_setState_of ho hd hf ?_))
  dsimp only
  rw [byScan_of hsc hb hel]
  simp only [↓reduceIte]
  unfold setAddByScan
  refine wpAny_bind ?_
  refine wpAny_bind (wpAny_rule ?_)
  refine wpAny_bind (wpAny_setScan_of hkey ho hd hf hel ?_)
  cases hfi : List.findIdx? (fun e => (PySem.strKind P w).is k e.2) es.toList with
  | some j =>
    dsimp only
    obtain ⟨hj, pj, _⟩ := List.findIdx?_eq_some_iff_getElem.mp hfi
    have hSk : S k = true := (hm k).2 ((goodS_mem g k).2 ⟨es.toList[j], List.getElem_mem hj, pj⟩)
    refine wpAny_pure (wpAny_pure ?_)
    have q := hQ s.heap (Heap.SameBut.refl a s.heap) ⟨o, es, ep, t, ho, hex, hd, g, nd, fun i => by
      rw [Bool.or_eq_true, decide_eq_true_eq, ← hm i]
      exact ⟨fun z => z.elim id (fun e => e ▸ hSk), .inl⟩, hb, hf, by rw [if_pos hSk]; exact hn, hr, hl⟩
    rw [hSk] at q
    exact q
  | none =>
    dsimp only
    have hnk : k ∉ es.toList.map keyS := fun z => by
      obtain ⟨e, he, q⟩ := (goodS_mem g k).1 z
      have c := List.findIdx?_eq_none_iff.mp hfi e he
      rw [q] at c
      cases c
    have hSk : S k = false := by
      cases q : S k with
      | false => rfl
      | true => exact absurd ((hm k).1 q) hnk
    have hgw : ∀ (b : Bool) {s₁ : Shared} {Q' : Unit → Shared → Prop}, Q' () s₁ → wpAny (model P w) A (match b with | true => rule "set.scan.the-table-gave-way" | false => pure ()) Q' E s₁ :=
      fun b s₁ Q' q => by cases b <;> first | exact wpAny_pure q | exact wpAny_rule q
    have pm := layNew_perm t es ((PySem.strKind P w).hash k) (.str k tk)
    have hf1 := layNew_fits t es ((PySem.strKind P w).hash k) (.str k tk)
    have hr1 := layNew_ris t es ((PySem.strKind P w).hash k) (.str k tk) hr
    have hl1 := layNew_led t es ((PySem.strKind P w).hash k) (.str k tk)
    generalize layNew t es ((PySem.strKind P w).hash k) (.str k tk) = Z at pm hf1 hr1 hl1 ⊢
    obtain ⟨es1, t1, wasDummy, gave⟩ := Z
    dsimp only at pm hf1 hr1 hl1 ⊢
    rw [Array.toList_push] at pm
    have pc : es1.toList.Perm (((PySem.strKind P w).hash k, Value.str k tk) :: es.toList) := pm.trans (List.perm_append_singleton _ _)
    have pk : (es1.toList.map keyS).Perm (k :: es.toList.map keyS) := pc.map keyS
    have g1 : ∀ e ∈ es1.toList, GoodS P w e := fun e he => by
      rcases List.mem_cons.mp (pc.mem_iff.mp he) with z | z
      · rw [z]; exact ⟨k, tk, rfl, rfl⟩
      · exact g e z
    have nd1 : (es1.toList.map keyS).Nodup := pk.nodup_iff.mpr (List.nodup_cons.mpr ⟨hnk, nd⟩)
    have m1 : ∀ i, (S i || decide (i = k)) = true ↔ i ∈ es1.toList.map keyS := fun i => by
      rw [Bool.or_eq_true, decide_eq_true_eq, hm i, pk.mem_iff, List.mem_cons]
      exact Or.comm
    have hsz : es1.size = n + 1 := by rw [← Array.length_toList, pc.length_eq, List.length_cons, Array.length_toList, hn]
    have hb1 : es1.size < scanBound := by rw [hsz]; exact room
    have hled : w.params.followText "set-order" = true ∨ t1.led = true := hl.imp id fun z => by rw [hl1]; exact z
    have fin : ∀ h', Heap.SameBut a s.heap h' → SetS P w h' a (fun j => S j || decide (j = k)) es1.size → Q true { s with heap := h' } := fun h' sb r => by
      have q := hQ h' sb
      rw [hSk] at q
      rw [hsz] at r
      exact q r
    refine wpAny_bind (hgw _ ?_)
    split
    · refine wpAny_bind ?_
      rw [hashByValue_scannable 8 hsc]
      refine wpAny_pure ?_
      refine setS_add_tail ?_ ho hex hd g1 nd1 m1 hb1 ?_ ?_ ?_ ?_
      · intro b s₁ Q' q; cases b <;> first | exact wpAny_pure q | exact wpAny_rule q
      · first | (split <;> first | exact hf1 | exact SetTable.fits_plain_off hf1) | exact hf1
      · first | (split <;> exact hr1) | exact hr1
      · first | (split <;> exact hled) | exact hled
      · intro h' sb r; dsimp only; exact wpAny_pure (fin h' sb r)
    · refine wpAny_bind (wpAny_pure ?_)
      simp only [↓reduceIte]
      refine setS_add_tail ?_ ho hex hd g1 nd1 m1 hb1 hf1 hr1 hled ?_
      · intro b s₁ Q' q; cases b <;> first | exact wpAny_pure q | exact wpAny_rule q
      · intro h' sb r; dsimp only; exact wpAny_pure (fin h' sb r)
end
end Od
end
section
set_option Elab.async false
set_option linter.all false
set_option maxRecDepth 100000
set_option maxHeartbeats 4000000
set_option autoImplicit false
/-! set(list of texts), sorted(set of texts): the rules -/
namespace Od
open PySem PySem.Spec PyProof.Rows L2
section
variable {P : Program} {w : World} {A : Around} {E : Value → Shared → Prop} {s : Shared}
theorem setS_update {I : Addr} {fp wr : List Addr} {G : Array GenState → Array GenState → Prop} {n : Nat} {Pv : Nat → Value → Prop} {St : Nat → Shared → Prop} {R : Result → Shared → Prop}
    (W : WalksS P w A.in1 I fp wr G n Pv St) (S : Addr) (hSf : S ∉ fp) (xs : List Str) (hn : n = xs.length) (hb : xs.length + 1 < scanBound) (hval : ∀ i v, Pv i v → ∃ k t, xs[i]? = some k ∧ v = .str k t) :
    ∀ (k i : Nat) (s : Shared), n - i = k → i ≤ n → St i s → (∃ c, c ≤ i ∧ SetS P w s.heap S (fun j => decide (j ∈ xs.take i)) c) →
      (∀ s' c, Moved (S :: wr) G s s' → c ≤ n → SetS P w s'.heap S (fun j => decide (j ∈ xs)) c → R (.ok (.ret .none)) s') →
      codeAny (model P w) A (.builtin "set.update.loop" ⟨[.ref S, .ref I], []⟩) R s := by
  have hSw : S ∉ wr := fun h => hSf (W.sub _ h)
  have hsub : ∀ b ∈ wr, b ∈ S :: wr := fun b hb => List.mem_cons_of_mem _ hb
  intro k
  induction k with
  | zero =>
    intro i s hk' hi hst ⟨c, hc, hS⟩ hR
    have hin : i = n := by omega
    subst hin
    refine codeAny_builtin F.entry_set_update_loop ?_
    rw [Around.under_plainId F.plain_set_update_loop _]
    show wpAny _ A.in1 (pyNext (.ref I) >>= _) _ _ s
    refine wpAny_bind (W.done s _ _ hst fun s' hm => ?_)
    show wpAny _ A.in1 (ret Value.none) _ _ s'
    have e : xs.take i = xs := List.take_of_length_le (by omega)
    rw [e] at hS
    exact wpAny_pure (hR s' c (hm.mono hsub) hc (hS.at fun o e => hm.heap S o hSw e))
  | succ k ih =>
    intro i s hk' hi hst ⟨c, hc, hS⟩ hR
    have hlt : i < n := by omega
    refine codeAny_builtin F.entry_set_update_loop ?_
    rw [Around.under_plainId F.plain_set_update_loop _]
    show wpAny _ A.in1 (pyNext (.ref I) >>= _) _ _ s
    refine wpAny_bind (W.item i s _ _ hlt hst fun v s' hP hst' hm => ?_)
    obtain ⟨z, t, hz, rfl⟩ := hval i v hP
    have hS' : SetS P w s'.heap S (fun j => decide (j ∈ xs.take i)) c := hS.at fun o e => hm.heap S o hSw e
    show wpAny _ A.in1 (holding [Value.str z t] (setAdd S (.str z t)) >>= _) _ _ s'
    refine wpAny_bind (wpAny_holding ?_)
    unfold setAdd
    refine wpAny_holding ?_
    refine wpAny_bind ((PySem.strKind P w).pyHash (k := z) (strKind_is _ _ _ _) ?_)
    refine setS_add_hashed (s := { s' with toks := s'.toks + 1 }) hS' (by omega) fun h' hsb hS2 => ?_
    have hS3 : SetS P w h' S (fun j => decide (j ∈ xs.take (i + 1))) (if decide (z ∈ xs.take i) = true then c else c + 1) := hS2.congr fun j => by
      rw [List.take_add_one, hz]
      simp [List.mem_append]
    have hc3 : (if decide (z ∈ xs.take i) = true then c else c + 1) ≤ i + 1 := by
      split <;> omega
    refine wpAny_pure ⟨plainId_quiet F.plain_set_update_loop _, ih (i + 1) _ (by omega) hlt (W.frame _ s' _ _ hst' (Nat.le_succ _) fun b hb o e => ?_) ⟨_, hc3, hS3⟩ fun s'' c2 hm'' hc'' hS'' => ?_⟩
    · rw [hsb.2 b (fun h : b = S => hSf (by rw [← h]; exact hb))]; exact e
    · refine hR s'' c2 (Moved.trans W.gtrans ((hm.mono hsub).then_heap (Nat.le_succ _) fun b o hb e => ?_) hm'') hc'' hS''
      rw [hsb.2 b (fun h : b = S => hb (by rw [h]; exact List.mem_cons_self))]; exact e
theorem strs_atT {us : List Value} {xs : List Str} (h : StrsAre us xs) : ∀ (i : Nat) (v : Value), us[i]? = some v → ∃ k t, xs[i]? = some k ∧ v = .str k t := by
  induction h with
  | nil => intro i v h; simp at h
  | cons n t _ ih =>
    intro i v h
    cases i with
    | zero =>
      simp only [List.getElem?_cons_zero, Option.some.injEq] at h
      exact ⟨n, t, rfl, h.symm⟩
    | succ i =>
      rw [List.getElem?_cons_succ] at h
      obtain ⟨k, t', e1, e2⟩ := ih i v h
      exact ⟨k, t', by rw [List.getElem?_cons_succ]; exact e1, e2⟩
set_option maxHeartbeats 3200000 in
theorem call_set_listT {l : Addr} {items : Array Value} (xs : List Str) {Q : Value → Shared → Prop} (hh : A.handled = none) (hl : s.heap.IsList l items) (hit : StrsAre items.toList xs) (hb : xs.length + 1 < scanBound)
    (h : ∀ (h' : Heap) (tk c : Nat), SetS P w h' s.heap.objs.size (fun j => decide (j ∈ xs)) c → c ≤ xs.length → (∀ b o, s.heap.get? b = some o → h'.get? b = some o) → Q (.ref s.heap.objs.size) { s with heap := h', toks := tk }) :
    wpAny (model P w) A (call (.type "set") [.ref l]) Q E s := by
  have hisz : items.size = xs.length := by
    have q := StrsAre.len_eq hit
    rw [Array.length_toList] at q
    exact q
  obtain ⟨c, tl, hmro⟩ := PySem.F.called_set.mro
  have hmade := PySem.F.called_set.made
  have hsub := PySem.F.called_set.sub
  refine wpAny_call (codeAny_of_tree ?_)
  show wpAny _ _ (callAny (.type "set") _) _ _ _
  refine wpAny_pure ⟨Code.quiet_builtin _ (by decide +kernel), codeAny_builtin PySem.F.entry_type_call ?_⟩
  rw [Around.under_plain (weight_type_call_type "set" [.ref l] []) rfl]
  have h1 := PySem.F.called_set.notType
  have h2 := PySem.F.called_set.canCreate
  have hct := PySem.F.typeCall_set_1 (.ref l)
  repeat (any_goals (first | assumption | wp_step))
  refine codeAny_mono (code_set_led1 (.ref l) (E := E) (Q₁ := fun obj s₁ => obj = .ref s.heap.objs.size ∧ s₁ = { s with heap := s.heap.push { cls := .type "set", dict := none, data := .set #[] 0 (.fresh 0 0 (!w.params.followText "set-order")) } }) ⟨rfl, rfl⟩) fun r s₁ hr => ?_
  cases r with
  | error e => exact hr
  | ok fl =>
    cases fl with
    | ret obj =>
      obtain ⟨rfl, rfl⟩ := hr
      have hS : (s.heap.push { cls := .type "set", dict := none, data := .set #[] 0 (.fresh 0 0 (!w.params.followText "set-order")) }).get? s.heap.objs.size = some { cls := .type "set", dict := none, data := .set #[] 0 (.fresh 0 0 (!w.params.followText "set-order")) } := Heap.get?_push_size _ rfl
      have hT : Shared.TypeIs { s with heap := s.heap.push { cls := .type "set", dict := none, data := .set #[] 0 (.fresh 0 0 (!w.params.followText "set-order")) } } (.ref s.heap.objs.size) "set" := ⟨_, hS, rfl⟩
      have hli := PySem.F.called_set.init.lookup
      have hbi := PySem.F.called_set.init.bind (.ref s.heap.objs.size)
      repeat (any_goals (first | assumption | wp_step))
      refine codeAny_mono (codeAny_call_builtin (R := wants (fun r s₂ => r = .none ∧ ∃ h' tk c, s₂ = { s with heap := h', toks := tk } ∧ SetS P w h' s.heap.objs.size (fun j => decide (j ∈ xs)) c ∧ c ≤ xs.length ∧
          (∀ b o, s.heap.get? b = some o → h'.get? b = some o)) E) PySem.F.called_set.init.plain PySem.F.entry_set_init (check_set_init_1 hT ?_)) fun r₂ s₂ hr₂ => ?_
      · obtain ⟨ol, hol, hcl, nl, hdl⟩ := hl
        obtain ⟨ocls, odict, odata, oslots⟩ := ol
        simp only at hcl hdl
        subst hcl; subst hdl
        have hol' : (s.heap.push { cls := .type "set", dict := none, data := .set #[] 0 (.fresh 0 0 (!w.params.followText "set-order")) }).get? l = some { cls := .type "list", dict := odict, data := .seq items nl, slots := oslots } := Heap.get?_push_of_some _ hol
        have hsls := PySem.F.sub_list_set
        have hslf := PySem.F.sub_list_frozenset
        have hne : (Value.type "list" == Value.type "dict") = false := by decide
        have hl1 : (s.heap.push { cls := .type "set", dict := none, data := .set #[] 0 (.fresh 0 0 (!w.params.followText "set-order")) }).IsList l items := ⟨_, hol', rfl, nl, rfl⟩
        unfold Builtin.«set.__init__» noKeywords Builtin.Frozenset.updateFrom
        generalize hPI : pyIter = PI
        wp_walk
        subst hPI
        refine wpAny_pyIter_list hl1 ?_
        refine wpAny_bind (wpAny_runValue ?_)
        have hlS : l < s.heap.objs.size := Heap.lt_size hol
        have hh3 : A.in1.in1.in1.handled = none := by simp [hh]
        have hneI : l ≠ (s.heap.push { cls := .type "set", dict := none, data := .set #[] 0 (.fresh 0 0 (!w.params.followText "set-order")) }).objs.size := by
          rw [Heap.size_push]; exact Nat.ne_of_lt (Nat.lt_succ_of_lt hlS)
        have hSf : s.heap.objs.size ∉ [(s.heap.push { cls := .type "set", dict := none, data := .set #[] 0 (.fresh 0 0 (!w.params.followText "set-order")) }).objs.size, l] := by
          rw [Heap.size_push]; simp only [List.mem_cons, List.mem_singleton, List.not_mem_nil, or_false, not_or]
          exact ⟨Nat.ne_of_lt (Nat.lt_succ_self _), Nat.ne_of_gt hlS⟩
        have hval : ∀ (i : Nat) (v : Value), items[i]? = some v → ∃ k t, xs[i]? = some k ∧ v = .str k t := fun i v hv => strs_atT hit i v (by rw [Array.getElem?_toList]; exact hv)
        refine setS_update ((Walks.list hh3 _ l hneI items).toS) s.heap.objs.size
          hSf xs hisz hb hval (items.size - 0) 0 _ (by omega) (Nat.zero_le _)
          ⟨⟨_, Heap.get?_push_size _ rfl, rfl, rfl⟩, (hl1.push _)⟩ ?hS0 ?hR
        case hS0 =>
          have hget : ((s.heap.push { cls := .type "set", dict := none, data := .set #[] 0 (.fresh 0 0 (!w.params.followText "set-order")) }).push { cls := .type "list_iterator", data := .fields #[.ref l, .int 0 0] }).get? s.heap.objs.size
              = some { cls := .type "set", dict := none, data := .set #[] 0 (.fresh 0 0 (!w.params.followText "set-order")) } := Heap.get?_push_of_some _ hS
          exact ⟨0, Nat.le_refl 0, (setS_new_at hget).congr fun k => by simp⟩
        case hR =>
          intro s' c' hm hc' hS'
          obtain ⟨h', g2, d', tk', os'⟩ := s'
          have eg : g2 = s.gens := hm.gens
          have ed : d' = s.drawn := hm.drawn
          have eo : os' = s.os := hm.os
          subst eg; subst ed; subst eo
          show wpAny _ _ _ _ _ _
          refine wpAny_pure ?_
          show wpAny _ _ (ret Value.none) _ _ _
          rw [hisz] at hc'
          refine wpAny_pure ⟨rfl, h', tk', c', rfl, hS', hc', fun b o e => ?_⟩
          have hb0 : b < s.heap.objs.size := Heap.lt_size e
          have hb1 : b ≠ s.heap.objs.size := Nat.ne_of_lt hb0
          have hb2 : b ≠ (s.heap.push { cls := .type "set", dict := none, data := .set #[] 0 (.fresh 0 0 (!w.params.followText "set-order")) }).objs.size := by
            rw [Heap.size_push]; exact Nat.ne_of_lt (Nat.lt_succ_of_lt hb0)
          exact hm.heap b o (by simp only [List.mem_cons, List.mem_singleton, List.not_mem_nil, or_false, not_or]; exact ⟨hb1, hb2⟩) (Heap.get?_push_of_some _ (Heap.get?_push_of_some _ e))
      · cases r₂ with
        | error e => exact hr₂
        | ok fl₂ =>
          cases fl₂ with
          | ret r =>
            obtain ⟨rfl, h', tk, c', rfl, hS', hc', hk'⟩ := hr₂
            repeat (any_goals (first | assumption | wp_step))
            exact h _ _ _ hS' hc' hk'
          | _ => exact hr₂.elim
    | _ => exact hr.elim
theorem strs_ofG : ∀ {vs : List Value}, (∀ v ∈ vs, ∃ k t, v = Value.str k t) → StrsAre vs (vs.map fun v => keyS (0, v))
  | [], _ => .nil
  | v :: vs, h => by
    obtain ⟨k, t, rfl⟩ := h v List.mem_cons_self
    exact .cons k t (strs_ofG fun x hx => h x (List.mem_cons_of_mem _ hx))
theorem sorted_setS {a : Addr} {S : Str → Bool} {n : Nat} {Q : Value → Shared → Prop} (R : SetS P w s.heap a S n) (hh : A.handled = none) (h64 : n < 64)
    (hQ : ∀ s' p (out : Array Value) (c : Nat) (xs : List Str), (∀ b o, s.heap.get? b = some o → s'.heap.get? b = some o) → s'.gens = s.gens → s'.os = s.os → s.heap.objs.size ≤ p →
      s'.heap.get? p = some (seqObj "list" out c) → StrsAre out.toList xs → sortedS xs = true → xs.Nodup → (∀ k, k ∈ xs ↔ S k = true) → xs.length = n → Q (.ref p) s') :
    wpAny (model P w) A (call (.builtin "sorted") [.ref a]) Q E s := by
  obtain ⟨o, es, ep, t, ho, hex, hd, g, nd, hm, hb, hf, hn, hr, hl⟩ := R
  refine Calls.call_function_entry kind_sorted plain_sorted entry_sorted (args_sorted1 _) ?_
  unfold Builtin.«sorted»
  refine wpAny_bind (m := checkCount "sorted" 1 1 _) (wpAny_pure ?_)
  refine wpAny_bind (collect_set (A := A.in1) hh ⟨o, ho, hex.1, hd⟩ hf hb hr hl fun s1 vs k1 hz g1 o1 pm => ?_)
  have hvl : vs.length = n := by rw [pm.length_eq, List.length_map, Array.length_toList]; exact hn
  have hS : StrsAre vs (vs.map fun v => keyS (0, v)) := strs_ofG fun v hv => by
    obtain ⟨e, he, q⟩ := List.mem_map.mp (pm.mem_iff.mp hv)
    obtain ⟨k, tk, h1, _⟩ := g e he
    exact ⟨k, tk, by rw [← q]; exact h1⟩
  have pk : (vs.map fun v => keyS (0, v)).Perm (es.toList.map keyS) := by
    have q := pm.map fun v => keyS (0, v)
    rw [List.map_map] at q
    exact q
  refine wpAny_bind (wpAny_newList ?_ (by rw [hvl, sizeLine_eq]; omega))
  have hoL : (s1.heap.push (seqObj "list" vs.toArray 0)).get? s1.heap.objs.size = some (seqObj "list" vs.toArray 0) := Heap.get?_push_size _ rfl
  refine wpAny_bind (wpAny_holding (wpAny_call_entry slot_list_sort ⟨_, hoL, rfl⟩ entry_list_sort (list_sort_treeK strKind_oneLt hoL hS.keysOf (fun v₁ v₂ rest e => keyKind_strs (by rw [← e]; exact hS)) (by rw [hvl]; exact h64) fun st' hp hs => ?_) (args_list_sort _)))
  obtain ⟨ss', h1, h2, h3⟩ := sorted_out_str hS hp hs
  refine ⟨_, rfl, ?_⟩
  obtain ⟨c, hc⟩ := sortedHeap_at (vs := vs) (out := Array.map (fun x => x.snd) (arrOf st')) hoL
  have pn : ss'.Perm (es.toList.map keyS) := h2.trans pk
  refine wpAny_pure ⟨_, rfl, hQ _ s1.heap.objs.size _ c ss' (fun b u e => ?_) g1 o1 hz hc h1 h3 (pn.nodup_iff.mpr nd) (fun k => by rw [pn.mem_iff, ← hm k]) ?_⟩
  · have q := k1 b u e
    have hlt := Heap.lt_size q
    show (sortedHeap (s1.heap.push (seqObj "list" vs.toArray 0)) s1.heap.objs.size vs _).get? b = some u
    rw [sortedHeap_old (Nat.ne_of_lt hlt) (by rw [size_push']; exact Nat.lt_succ_of_lt hlt)]
    exact Heap.get?_push_of_some _ q
  · rw [pn.length_eq, List.length_map, Array.length_toList]; exact hn
end
/-! ### in the hand layer -/
structure SetT (mg : Str → Option Value) : Prop where
  b_set : mg "set" = none
def SetSO (P : Program) (w : World) (a : Addr) (S : Str → Bool) (n : Nat) : HO := .ext fun h => SetS P w h a S n
theorem setSO_new {P : Program} {w : World} {H : Hp} {h : Heap} {a : Addr} {S : Str → Bool} {n : Nat} (R : SetS P w h a S n) : ObjOk P w H h a (SetSO P w a S n) := by
  have ⟨o, _, _, _, ho, _⟩ := R
  exact ⟨R, ⟨o, ho⟩, fun h1 h2 p k => SetS.at p k⟩
section
variable {X : Cx}
/-- set(xs), xs a list of texts -/
def rSetOfS (K : PySem.W.Frag) (P : Program) (w : World) : List V → Hp → VK → Prop := fun vs H Q => ∃ (l : Addr) (xs : List Str), vs = [.ref l] ∧ SqL K H l (xs.map V.str) ∧ xs.length < 64 ∧
  ∀ (p : Addr) (c : Nat), H p = none → c ≤ xs.length → Q (.ref p) (upd H p (SetSO P w p (fun j => decide (j ∈ xs)) c))
theorem cr_setOfS (hc : X.calm = true) : CallR X (.type "set") (rSetOfS X.K X.prog X.w) := by
  intro pins s σ H vs us Q I r h
  obtain ⟨l, xs, rfl, hq, h64, q⟩ := h
  obtain ⟨its, rv, pl, hz⟩ := I.list hq
  rw [Vals.ref1 r]
  refine call_set_listT xs (I.ok.hd hc) pl.isList (by simpa using strsAre_of rv) (by unfold scanBound; omega) fun h' tk c hS hcl hk => ?_
  have hn : H s.heap.objs.size = none := I.hok.fresh (Nat.le_refl _)
  exact ⟨.ref _, upd H s.heap.objs.size (SetSO X.prog X.w s.heap.objs.size (fun j => decide (j ∈ xs)) c), I.laid (t' := tk) hk (Nat.le_refl _) (setSO_new hS), rfl, q _ c hn hcl⟩
/-- sorted(found) -/
def rSortedSS (P : Program) (w : World) : List V → Hp → VK → Prop := fun vs H Q => ∃ (a : Addr) (S : Str → Bool) (n : Nat), vs = [V.ref a] ∧ H a = some (SetSO P w a S n) ∧ n < 64 ∧
  ∀ (xs : List Str) (p : Addr), sortedS xs = true → xs.Nodup → (∀ k, k ∈ xs ↔ S k = true) → H p = none → Q (.ref p) (upd H p (.lst (xs.map V.str)))
theorem cr_sortedSS (hc : X.calm = true) : CallR X (.builtin "sorted") (rSortedSS X.prog X.w) := by
  intro pins s σ H vs us Q I r h
  obtain ⟨a, S, n, rfl, ha, h64, q⟩ := h
  have R : SetS X.prog X.w s.heap a S n := (I.hok a _ ha).1
  rw [Vals.ref1 r]
  refine sorted_setS R (I.ok.hd hc) h64 fun s' p out c xs k g o hp hg hi hs nd hm hl => ?_
  have hlen : (xs.map V.str).length ≤ sizeLine := by rw [List.length_map, hl, sizeLine_eq]; omega
  have hn : H p = none := I.hok.fresh hp
  have J : Inv X pins σ (upd H p (.lst (xs.map V.str))) { s with heap := s'.heap, gens := s'.gens, drawn := s'.drawn, toks := s'.toks } :=
    I.call (ch := []) (Un.laid k hp hn) (I.hok.laid k hp ⟨hlen, out.toList, c, vals_of_strs hi, hg⟩) (by rw [g]; exact I.bare) (fun _ z => nomatch z)
  have e : s' = { s with heap := s'.heap, gens := s'.gens, drawn := s'.drawn, toks := s'.toks } := by
    cases s'
    cases s
    cases o
    rfl
  rw [e]
  exact ⟨.ref p, _, J, rfl, q xs p hs nd hm hn⟩
end
end Od
end
section
set_option Elab.async false
set_option linter.all false
set_option maxRecDepth 100000
set_option maxHeartbeats 2000000
set_option autoImplicit false
/-! the rows of a chart, their written forms -/
namespace Od
open PySem PySem.Spec PyProof.Rows L2 C8 Day
abbrev s_Chart_rows : Stmt := inClass (top 28) 17
abbrev N_Chart_rows : List Str := ["self"]
abbrev P_Chart_rows : List Str := ["self"]
theorem sc_Chart_rows : FnScope N_Chart_rows P_Chart_rows (C8.fnScope s_Chart_rows) := fnScope_by (by decide +kernel)
abbrev s__law_forms : Stmt := top 39
abbrev N__law_forms : List Str := ["_law_chart_here", "_law_days_here", "_law_ages"]
abbrev P__law_forms : List Str := ["_law_chart_here"]
theorem sc__law_forms : FnScope N__law_forms P__law_forms (C8.fnScope s__law_forms) := fnScope_by (by decide +kernel)
theorem un_inj : ∀ {R : List Row2}, R.Pairwise (fun r s => r.2 ≠ s.2) → ∀ {r s : Row2}, r ∈ R → s ∈ R → r.2 = s.2 → r = s
  | [], _, _, _, h, _, _ => by cases h
  | x :: R, hp, r, s, hr, hs, e => by
    obtain ⟨h1, h2⟩ := List.pairwise_cons.mp hp
    rcases List.mem_cons.mp hr with rfl | hr
    · rcases List.mem_cons.mp hs with rfl | hs
      · rfl
      · exact absurd e (h1 s hs)
    · rcases List.mem_cons.mp hs with h | hs
      · exact absurd (h ▸ e).symm (h1 r hr)
      · exact un_inj h2 hr hs e
theorem LeastR.day {R : List Row2} {g : Int → DF} (l : LeastR R g) {r : Row2} (hr : r ∈ R) (d : Int) : r.1 d = true ↔ g d = r.2 := by
  constructor
  · exact fun h => (l.t.is r hr d h).symm
  · intro h
    obtain ⟨s, hs, h'⟩ := l.t.cov d
    have e := (l.t.is s hs d h').trans h
    rw [← un_inj l.un hs hr e]
    exact h'
theorem rows_z {R : List Row2} {g : Int → DF} {zs : List Str} (l : LeastR R g) (t : TxtsOf R zs) (z : Str) : z ∈ zs ↔ ∃ d, TxtOf (g d) z := by
  constructor
  · intro h
    obtain ⟨i, hi, e⟩ := List.mem_iff_getElem.mp h
    have hiR : i < R.length := by rw [t.1]; exact hi
    have h1 := t.2 i R[i] z (List.getElem?_eq_getElem hiR) (by rw [List.getElem?_eq_getElem hi, e])
    obtain ⟨d, hd⟩ := l.ne R[i] (List.getElem_mem hiR)
    exact ⟨d, by rw [← l.t.is R[i] (List.getElem_mem hiR) d hd]; exact h1⟩
  · rintro ⟨d, h⟩
    obtain ⟨r, hr, hd⟩ := l.t.cov d
    obtain ⟨i, hi, e⟩ := List.mem_iff_getElem.mp hr
    have hiz : i < zs.length := by rw [← t.1]; exact hi
    have h1 := t.2 i r zs[i] (by rw [List.getElem?_eq_getElem hi, e]) (List.getElem?_eq_getElem hiz)
    rw [l.t.is r hr d hd] at h1
    rw [h.uniq h1]
    exact List.getElem_mem hiz
theorem rows_same {R S : List Row2} {g : Int → DF} (l : LeastR R g) (s : SortedR R) (l' : LeastR S g) (s' : SortedR S) : R = S := by
  obtain ⟨zs, t, so, nd⟩ := s
  obtain ⟨ws, t', so', nd'⟩ := s'
  have ez : zs = ws := Los.ext ltS_so (ltS_asc so nd) (ltS_asc so' nd') fun z => by rw [rows_z l t, rows_z l' t']
  subst ez
  refine List.ext_getElem (t.1.trans t'.1.symm) fun i h1 h2 => ?_
  have hz : i < zs.length := by rw [← t.1]; exact h1
  have e2 : R[i].2 = S[i].2 := (t.2 i R[i] zs[i] (List.getElem?_eq_getElem h1) (List.getElem?_eq_getElem hz)).inj (t'.2 i S[i] zs[i] (List.getElem?_eq_getElem h2) (List.getElem?_eq_getElem hz))
  refine Prod.ext (funext fun d => ?_) e2
  rw [Bool.eq_iff_iff, l.day (List.getElem_mem h1), l'.day (List.getElem_mem h2), e2]
/-- the written forms of rows -/
def FormsR : List Row2 → List (Str × Str) → Prop
  | [], [] => True
  | r :: R, f :: fs => TxtOf r.1 f.1 ∧ TxtOf r.2 f.2 ∧ FormsR R fs
  | _, _ => False
theorem FormsR.uniq : ∀ {R : List Row2} {fs gs : List (Str × Str)}, FormsR R fs → FormsR R gs → fs = gs
  | [], [], [], _, _ => rfl
  | _ :: R, f :: fs, g :: gs, ⟨a1, a2, a3⟩, ⟨b1, b2, b3⟩ => by rw [FormsR.uniq a3 b3, Prod.ext (a1.uniq b1) (a2.uniq b2)]
theorem FormsR.txts : ∀ {R : List Row2} {fs : List (Str × Str)}, FormsR R fs → TxtsOf R (fs.map Prod.snd)
  | [], [], _ => ⟨rfl, fun i r z h => by simp at h⟩
  | r :: R, f :: fs, ⟨a1, a2, a3⟩ => by
    obtain ⟨h1, h2⟩ := FormsR.txts a3
    refine ⟨by rw [List.map_cons, List.length_cons, List.length_cons, h1], fun i x z hx hz => ?_⟩
    cases i with
    | zero => cases hx; cases hz; exact a2
    | succ i => exact h2 i x z hx hz
theorem FormsR.ok : ∀ {R : List Row2} {fs : List (Str × Str)}, FormsR R fs → ∀ f ∈ fs, PyData.strOk f.1 = true ∧ PyData.strOk f.2 = true
  | [], [], _, f, h => by cases h
  | r :: R, x :: fs, ⟨a1, a2, a3⟩, f, h => by
    rcases List.mem_cons.mp h with rfl | h
    · obtain ⟨F, _, _, e⟩ := a1
      obtain ⟨G, _, _, e'⟩ := a2
      rw [e, e']
      exact ⟨strF_ok F, strF_ok G⟩
    · exact a3.ok f h
/-- .. of a chart -/
def FormsG (g : Int → DF) (fs : List (Str × Str)) : Prop := ∃ R, LeastR R g ∧ SortedR R ∧ FormsR R fs
theorem FormsG.uniq {g : Int → DF} {fs gs : List (Str × Str)} (h : FormsG g fs) (h' : FormsG g gs) : fs = gs := by
  obtain ⟨R, l, s, f⟩ := h
  obtain ⟨S, l', s', f'⟩ := h'
  rw [rows_same l' s' l s] at f'
  exact f.uniq f'
/-- the texts of the ages ascend -/
theorem FormsG.asc {g : Int → DF} {fs : List (Str × Str)} (h : FormsG g fs) : (fs.map Prod.snd).Pairwise ltS := by
  obtain ⟨R, l, ⟨zs, t, so, nd⟩, f⟩ := h
  have t' := f.txts
  have e : zs = fs.map Prod.snd := by
    refine List.ext_getElem (t.1.symm.trans t'.1) fun i h1 h2 => ?_
    have hR : i < R.length := by rw [t.1]; exact h1
    exact (t.2 i R[i] zs[i] (List.getElem?_eq_getElem hR) (List.getElem?_eq_getElem h1)).uniq (t'.2 i R[i] _ (List.getElem?_eq_getElem hR) (List.getElem?_eq_getElem h2))
  rw [← e]
  exact ltS_asc so nd
def PairAt (H : Hp) (v : V) (f : Str × Str) : Prop := ∃ t : Addr, v = .ref t ∧ H t = some (.tup [.str f.1, .str f.2])
theorem PairAt.le {H H' : Hp} {v : V} {f : Str × Str} (h : PairAt H v f) (l : Le H H') : PairAt H' v f := by
  obtain ⟨t, e, h⟩ := h
  exact ⟨t, e, l _ _ h⟩
def pairS (f : Str × Str) : PyData := .tuple [.str f.1, .str f.2]
theorem eqv_pairS (f : Str × Str) : PyData.eqv (pairS f) (pairS f) = true := by
  show ((f.1 == f.1) && ((f.2 == f.2) && true)) = true
  simp
theorem eqv_pairsS : ∀ fs : List (Str × Str), PyData.eqvAll (fs.map pairS) (fs.map pairS) = true
  | [] => rfl
  | f :: fs => by
    show (PyData.eqv (pairS f) (pairS f) && PyData.eqvAll (fs.map pairS) (fs.map pairS)) = true
    rw [eqv_pairS, eqv_pairsS fs]
    rfl
theorem eqv_forms (fs : List (Str × Str)) : PyData.eqv (.list (fs.map pairS)) (.list (fs.map pairS)) = true := eqv_pairsS fs
theorem can_pairs : ∀ fs : List (Str × Str), (∀ f ∈ fs, PyData.strOk f.1 = true ∧ PyData.strOk f.2 = true) → PyData.canLayAll0 (fs.map pairS) = true ∧ PyData.depthAll (fs.map pairS) ≤ 1
  | [], _ => ⟨rfl, Nat.zero_le _⟩
  | f :: fs, h => by
    obtain ⟨h1, h2⟩ := can_pairs fs fun x hx => h x (List.mem_cons_of_mem _ hx)
    obtain ⟨a, b⟩ := h f List.mem_cons_self
    constructor
    · simp [PyData.canLayAll0, pairS, PyData.canLay0, a, b, h1]
    · have e : (pairS f).depth = 1 := rfl
      rw [List.map_cons]
      unfold PyData.depthAll
      rw [e]
      exact Nat.max_le.mpr ⟨Nat.le_refl 1, h2⟩
theorem shaped_forms (fs : List (Str × Str)) (h : ∀ f ∈ fs, PyData.strOk f.1 = true ∧ PyData.strOk f.2 = true) : SeqAt.shaped (.list (fs.map pairS)) = true := by
  obtain ⟨h1, h2⟩ := can_pairs fs h
  unfold SeqAt.shaped PyData.canLay0 PyData.depth
  rw [h1, Bool.true_and]
  exact decide_eq_true (by omega)
theorem dp_pairs {K : PySem.W.Frag} {H : Hp} : ∀ {us : List V} {fs : List (Str × Str)}, All2 (PairAt H) us fs → DpAll K H us (fs.map pairS)
  | _, _, .nil => .nil
  | _, _, .cons h t => by
    obtain ⟨a, rfl, h⟩ := h
    exact .cons (.tup (.of h) (.cons (.str _) (.cons (.str _) .nil))) (dp_pairs t)
section
variable {P : Program} {w : World} {K : PySem.W.Frag} {mg : Str → Option Value} {base : Heap}
def sp_crows (C X : Addr) : Sp := fun vs H Q _ => ∃ (p : Addr) (g : Int → DF) (κ : Int → Nat) (m : Nat), vs = [.ref p] ∧ IsChart C X H p g ∧ Dep κ m g ∧ m ≤ 1000 ∧
  ∀ l xs R H', Le H H' → H l = none → H' l = some (.lst xs) → RowsAt C H' xs R → LeastR R g → SortedR R → Q (.ref l) H'
theorem q_crows {C X : Addr} (T : Txt K mg) (D : DSC K mg C) (DC : DCC K mg X) (M : MetOf K X "rows" "Chart.rows" s_Chart_rows P_Chart_rows) : Met P w K mg base 1 X "rows" (sp_crows C X) [] := by
  obtain ⟨g_, fd, M, F, B⟩ := M
  refine met0 DC.cl M F B sc_Chart_rows (fun vs H Q E h => by obtain ⟨_, _, _, _, rfl, _⟩ := h; rfl) (fun cdv A outer s H vs Q E hr h => ?_)
  obtain ⟨p, g, κ, m, rfl, hp, dep, hm, qq⟩ := h
  have nd := sc_Chart_rows.nd
  refine ⟨_, (pss_one (ps_ret (pe_callTy call_list_of (by rfl) T.b_list (by decide +kernel) (pa_cons (pe_fld (pv 0) rfl) pa_nil)))), ?_⟩
  obtain ⟨dx, lp, xs, R, hp1, hlp, hR, lR, sR⟩ := hp
  have hl : xs.length ≤ 1000 := by
    rw [hR.len]
    exact Nat.le_trans (lR.few dep) hm
  refine ⟨_, rfl, _, _, _, _, _, rfl, hp1, DC.cl, DC.n_pairs, by rfl, lp, xs, rfl, .inl (.of hlp), ?_⟩
  intro l nl
  have ll := Le.new (o := .lst xs) nl
  exact qq l xs R _ ll nl upd_self (hR.le ll) lR sR
def sp_forms (C X : Addr) : Sp := fun vs H Q _ => ∃ (p : Addr) (g : Int → DF) (κ : Int → Nat) (m : Nat), vs = [.ref p] ∧ IsChart C X H p g ∧ Dep κ m g ∧ m ≤ 1000 ∧
  ∀ l us fs H', Le H H' → H l = none → H' l = some (.lst us) → All2 (PairAt H') us fs → FormsG g fs → fs.length ≤ m → Q (.ref l) H'
theorem c_forms {C X : Addr} (T : Txt K mg) (D : DSC K mg C) (DC : DCC K mg X) (F : DefOf K mg "_law_forms" s__law_forms P__law_forms) (Q_Chart_rows : Met P w K mg base 1 X "rows" (sp_crows C X) []) (Q_DaySet___str__ : Met P w K mg base 1 C "__str__" (sp_str C) []) : Cal P w K mg base 3 "_law_forms" (sp_forms C X) [] := by
  obtain ⟨f, fd, F, B⟩ := F
  refine cal0 F B .nil sc__law_forms (fun vs H Q E h => by obtain ⟨_, _, _, _, rfl, _⟩ := h; rfl) (fun cdv A outer s H vs Q E hr h => ?_)
  obtain ⟨p, g, κ, m, rfl, hp, dep, hm, qq⟩ := h
  have nd := sc__law_forms.nd
  refine ⟨_, (pss_one (ps_ret (pe_lc (own := [("_law_days_here", 1), ("_law_ages", 2)]) (g := (gTup K 2 (gCons (gName 1) (gCons (gName 2) gNil)))) (by rfl) nd (pi_list (pe_mt0 Q_Chart_rows hr (by decide) (pv 0))) (blkOk_by (own := [("_law_days_here", 1), ("_law_ages", 2)]) (N := N__law_forms) (sc := C8.fnScope s__law_forms) (by decide +kernel)) (fun _ _ _ _ _ => (pg_tupK (K := K) rfl rfl (pgs_cons (pg_name (i := 1) nd rfl (Or.inl rfl) (Or.inr rfl)) (pgs_cons (pg_name (i := 2) nd rfl (Or.inl rfl) (Or.inr rfl)) pgs_nil)))) (fun _ _ _ _ _ => pts_nil) (fun _ _ _ _ _ => (pe_tup (pa_cons (pe_callTy (call_str_ownM Q_DaySet___str__ hr (by decide)) (by rfl) T.b_str (by decide +kernel) (pa_cons (pv 1) pa_nil)) (pa_cons (pe_callTy (call_str_ownM Q_DaySet___str__ hr (by decide)) (by rfl) T.b_str (by decide +kernel) (pa_cons (pv 2) pa_nil)) pa_nil))))))), ?_⟩
  obtain ⟨dx, lp, xs, R, hp1, hlp, hR, lR, sR⟩ := id hp
  refine ⟨_, rfl, p, dx, _, rfl, hp1, by rfl, ?_⟩
  refine ⟨p, g, κ, m, rfl, hp, dep, hm, fun l ys S H1 l1 nl el hS lS sS => ?_⟩
  have eRS := rows_same lR sR lS sS
  subst eRS
  have hlen := hS.len
  have hfew := lR.few dep
  refine ⟨l, rfl, ⟨_, .of el⟩, fun D2 n2 => ?_⟩
  refine lc_eff (walk_list (xs := ys)) gives_at n2 (fun H le => .of (le _ _ el)) R hlen.symm (le_szl _ (by omega)) (fun r => r) (fun v r H => ∃ f : Str × Str, PairAt H v f ∧ TxtOf r.1 f.1 ∧ TxtOf r.2 f.2) (fun v r Ha Hb lx hD h => ?_) ?_ ?_
  · obtain ⟨f, ⟨t, e, h⟩, h2⟩ := h
    obtain ⟨acc, hD⟩ := hD
    exact ⟨f, ⟨t, e, lx _ _ (fun c => by rw [c, hD] at h; cases h) h⟩, h2⟩
  · intro i x r Hx hx hr lx
    obtain ⟨r', hr', t, a, b, rfl, ht, da, db, oa, ob⟩ := hS.get hx
    rw [hr] at hr'
    cases hr'
    refine ⟨[some (.ref p), some (.ref a), some (.ref b)], rfl, fun K2 hK => ⟨t, _, rfl, .of (lx _ _ ht), rfl, _, _, rfl, _, _, rfl, rfl, hK⟩, fun N hN => ?_⟩
    have da := da.le lx
    have db := db.le lx
    obtain ⟨F1, dx1, L1, z1, m1, e1⟩ := id da
    obtain ⟨F2, dx2, L2, z2, m2, e2⟩ := id db
    refine ⟨_, rfl, a, dx1, _, rfl, e1, a, _, _, _, rfl, da, oa, fun G hG hGm => ?_⟩
    refine ⟨_, rfl, _, rfl, b, dx2, _, rfl, e2, b, _, _, _, rfl, db, ob, fun G' hG' hGm' => ⟨_, rfl, le_szl 2 (by decide), fun t2 nt2 => hN _ _ (Le.new nt2) ⟨(strF G, strF G'), ⟨t2, rfl, upd_self⟩, ⟨G, hG, funext hGm, rfl⟩, ⟨G', hG', funext hGm', rfl⟩⟩⟩⟩
  intro H2 us l2 e2 hu
  rw [List.map_id'] at hu
  obtain ⟨fs, h1, h2, h3⟩ : ∃ fs, All2 (PairAt H2) us fs ∧ FormsR R fs ∧ fs.length = R.length := by
    clear e2 l2 lR sR lS sS hlen hfew hS hR
    induction hu with
    | nil => exact ⟨[], .nil, trivial, rfl⟩
    | cons h _ ih =>
      obtain ⟨f, hf, h1, h2⟩ := h
      obtain ⟨fs, i1, i2, i3⟩ := ih
      exact ⟨f :: fs, .cons hf i1, ⟨h1, h2, i2⟩, by rw [List.length_cons, List.length_cons, i3]⟩
  exact qq D2 us fs H2 (l1.trans l2) (l1.none n2) e2 h1 ⟨R, lR, sR, h2⟩ (by omega)
end
end Od
end
section
set_option Elab.async false
set_option linter.all false
set_option maxRecDepth 100000
set_option maxHeartbeats 2000000
set_option autoImplicit false
/-! far days -/
namespace Od
open PySem PySem.Spec PyProof.Rows L2 C8
section
variable {P : Program} {w : World} {K : PySem.W.Frag} {mg : Str → Option Value} {base : Heap}
end
end Od
end
section
set_option Elab.async false
set_option linter.all false
set_option maxRecDepth 100000
set_option maxHeartbeats 2000000
set_option autoImplicit false
/-! rows as data: equal ones, ones among others -/
namespace Od
open PySem PySem.Spec PyProof.Rows L2 C8
def dRow (r : Row) : PyData := .list (r.map PyData.str)
def dRows (rs : List Row) : PyData := .list (rs.map dRow)
theorem dpAll_str {K : PySem.W.Frag} {H : Hp} : ∀ r : Row, DpAll K H (r.map V.str) (r.map PyData.str)
  | [] => .nil
  | x :: r => .cons (.str x) (dpAll_str r)
theorem dp_row {K : PySem.W.Frag} {H : Hp} {p : Addr} {r : Row} (h : IsRow H p r) : Dp K H (.ref p) (dRow r) := .lst (.of h) (dpAll_str r)
theorem dpAll_rows {K : PySem.W.Frag} {H : Hp} : ∀ {ps : PR}, Prs H ps → DpAll K H (refs ps) ((rows ps).map dRow)
  | [], _ => .nil
  | x :: ps, h => .cons (dp_row (h x List.mem_cons_self)) (dpAll_rows fun y hy => h y (List.mem_cons_of_mem _ hy))
theorem dp_rows {K : PySem.W.Frag} {H : Hp} {q : Addr} {ps : PR} (h : H q = some (.lst (refs ps))) (p : Prs H ps) : Dp K H (.ref q) (dRows (rows ps)) := .lst (.of h) (dpAll_rows p)
theorem ok_str {z : Str} (h : Nm z) : PyData.strOk z = true := by
  unfold PyData.strOk
  rw [← Array.all_toList, List.all_eq_true]
  intro c hc
  have := h.1 c hc
  exact decide_eq_true (by omega)
theorem can_row : ∀ {r : Row}, (∀ z ∈ r, Nm z) → PyData.canLayAll0 (r.map PyData.str) = true ∧ PyData.depthAll (r.map PyData.str) = 0
  | [], _ => ⟨rfl, rfl⟩
  | x :: r, h => by
    obtain ⟨h1, h2⟩ := can_row fun z hz => h z (List.mem_cons_of_mem _ hz)
    refine ⟨?_, ?_⟩
    · rw [List.map_cons]
      unfold PyData.canLayAll0
      rw [h1, Bool.and_true]
      exact ok_str (h x List.mem_cons_self)
    · rw [List.map_cons]
      unfold PyData.depthAll
      rw [h2]
      rfl
theorem row_lay {r : Row} (h : ∀ z ∈ r, Nm z) : PyData.canLay0 (dRow r) = true ∧ PyData.depth (dRow r) = 1 := by
  obtain ⟨h1, h2⟩ := can_row h
  refine ⟨h1, ?_⟩
  show PyData.depthAll (r.map PyData.str) + 1 = 1
  rw [h2]
theorem shaped_row {r : Row} (h : ∀ z ∈ r, Nm z) : SeqAt.shaped (dRow r) = true := by
  obtain ⟨h1, h2⟩ := row_lay h
  unfold SeqAt.shaped
  rw [h1, h2]
  rfl
theorem rows_lay : ∀ {rs : List Row}, (∀ r ∈ rs, ∀ z ∈ r, Nm z) → PyData.canLayAll0 (rs.map dRow) = true ∧ PyData.depthAll (rs.map dRow) ≤ 1
  | [], _ => ⟨rfl, Nat.zero_le _⟩
  | x :: rs, h => by
    obtain ⟨h1, h2⟩ := rows_lay fun z hz => h z (List.mem_cons_of_mem _ hz)
    obtain ⟨h3, h4⟩ := row_lay (h x List.mem_cons_self)
    refine ⟨?_, ?_⟩
    · rw [List.map_cons]
      unfold PyData.canLayAll0
      rw [h1, h3]
      rfl
    · rw [List.map_cons]
      unfold PyData.depthAll
      rw [h4]
      omega
theorem shaped_rows {rs : List Row} (h : ∀ r ∈ rs, ∀ z ∈ r, Nm z) : SeqAt.shaped (dRows rs) = true := by
  obtain ⟨h1, h2⟩ := rows_lay h
  unfold SeqAt.shaped
  have e1 : (dRows rs).canLay0 = true := h1
  have e2 : (dRows rs).depth = PyData.depthAll (rs.map dRow) + 1 := rfl
  rw [e1, e2]
  simp
  omega
theorem eqv_str : ∀ r s : Row, PyData.eqvAll (r.map PyData.str) (s.map PyData.str) = decide (r = s)
  | [], [] => rfl
  | [], y :: s => by rw [decide_eq_false (by simp)]; rfl
  | x :: r, [] => by rw [decide_eq_false (by simp)]; rfl
  | x :: r, y :: s => by
    rw [List.map_cons, List.map_cons]
    show ((x == y) && PyData.eqvAll (r.map PyData.str) (s.map PyData.str)) = _
    rw [eqv_str r s]
    by_cases h1 : x = y
    · subst h1
      by_cases h2 : r = s
      · subst h2; simp
      · rw [decide_eq_false h2, Bool.and_false, decide_eq_false (by simp [h2])]
    · rw [beq_eq_false_iff_ne.mpr h1, Bool.false_and, decide_eq_false (by simp [h1])]
theorem eqv_row (r s : Row) : PyData.eqv (dRow r) (dRow s) = decide (r = s) := eqv_str r s
theorem any_row (rs : List Row) (r : Row) : ((rs.map dRow).any fun z => PyData.eqv z (dRow r)) = decide (r ∈ rs) := by
  rw [List.any_map, Bool.eq_iff_iff, List.any_eq_true, decide_eq_true_iff]
  constructor
  · rintro ⟨s, hs, h⟩
    have h : PyData.eqv (dRow s) (dRow r) = true := h
    rw [eqv_row] at h
    rw [← of_decide_eq_true h]; exact hs
  · intro h
    exact ⟨r, h, by show PyData.eqv (dRow r) (dRow r) = true; rw [eqv_row]; exact decide_eq_true rfl⟩
theorem eqv_rows (rs : List Row) (h : ∀ r ∈ rs, ∀ z ∈ r, Nm z) : PyData.eqv (dRows rs) (dRows rs) = true := SeqAt.eqv_refl _ (rows_lay h).1
theorem u65 {k : Nat} {A : Around} (r : Room k A) : A.units + 65 < cLine := by have := r.un; omega
end Od
end
section
set_option Elab.async false
set_option linter.all false
set_option maxRecDepth 100000
set_option maxHeartbeats 4000000
set_option autoImplicit false
/-! the law of the rows of charts -/
namespace Od
open PySem PySem.Spec PyProof.Rows L2 C8 Day NdefX LamX
abbrev s_law : Stmt := top 40
abbrev N_law : List Str := ["_law_script", "_law_pen_here", "_law_turn", "_law_tree", "_law_made", "_law_has", "_law_rows", "_law_forms_here", "_law_words", "_law_days_here", "_law_ages", "_law_whole", "_law_again", "_law_k", "_law_day", "_law_age", "_law_found"]
abbrev P_law : List Str := ["_law_script"]
theorem sc_law : FnScope N_law P_law (C8.fnScope s_law) := fnScope_by (by decide +kernel)
section
variable {P : Program} {w : World} {K : PySem.W.Frag} {mg : Str → Option Value} {base : Heap}
/-- the days, the chart of the first rows -/
def whF (R : List Row2) (j : Nat) : DF := fun d => (R.take j).any fun r => r.1 d
def agF (R : List Row2) (j : Nat) : Int → DF := fun d a => (R.take j).any fun r => r.1 d && r.2 a
theorem whF_succ {R : List Row2} {j : Nat} {r : Row2} (h : R[j]? = some r) (d : Int) : whF R (j + 1) d = (whF R j d || r.1 d) := by
  unfold whF
  rw [take_snoc h, List.any_append]
  simp
theorem agF_succ {R : List Row2} {j : Nat} {r : Row2} (h : R[j]? = some r) (d a : Int) : agF R (j + 1) d a = ((r.1 d && r.2 a) || agF R j d a) := by
  unfold agF
  rw [take_snoc h, List.any_append, Bool.or_comm]
  simp
theorem whF_all {R : List Row2} {g : Int → DF} (l : LeastR R g) (d : Int) : whF R R.length d = true := by
  unfold whF
  rw [List.take_length, List.any_eq_true]
  obtain ⟨r, hr, h⟩ := l.t.cov d
  exact ⟨r, hr, h⟩
theorem agF_all {R : List Row2} {g : Int → DF} (l : LeastR R g) (d a : Int) : agF R R.length d a = g d a := by
  unfold agF
  rw [List.take_length, Bool.eq_iff_iff, List.any_eq_true]
  constructor
  · rintro ⟨r, hr, h⟩
    rw [Bool.and_eq_true] at h
    rw [← l.t.is r hr d h.1]
    exact h.2
  · intro h
    obtain ⟨r, hr, hd⟩ := l.t.cov d
    exact ⟨r, hr, by rw [hd, l.t.is r hr d hd, h]; rfl⟩
theorem row_kind {R : List Row2} {g : Int → DF} {κ : Int → Nat} {m : Nat} (l : LeastR R g) (k : Dep κ m g) {r : Row2} (hr : r ∈ R) {d e : Int} (h : κ d = κ e) : r.1 d = r.1 e := by
  rw [Bool.eq_iff_iff, l.day hr, l.day hr, k.eq d e h]
theorem dep_row {R : List Row2} {g : Int → DF} {κ : Int → Nat} {m : Nat} (l : LeastR R g) (k : Dep κ m g) {r : Row2} (hr : r ∈ R) : Dep κ m (fun d n => r.1 d && r.2 n) :=
  ⟨k.lt, fun d e h => funext fun a => by rw [row_kind l k hr h]⟩
theorem dep_ag {R : List Row2} {g : Int → DF} {κ : Int → Nat} {m : Nat} (l : LeastR R g) (k : Dep κ m g) (j : Nat) : Dep κ m (agF R j) :=
  ⟨k.lt, fun d e h => funext fun a => by
    unfold agF
    have key : ∀ S : List Row2, (∀ r ∈ S, r ∈ R) → (S.any fun r => r.1 d && r.2 a) = S.any fun r => r.1 e && r.2 a := by
      intro S
      induction S with
      | nil => intro _; rfl
      | cons r S ih =>
        intro hS
        rw [List.any_cons, List.any_cons, ih fun x hx => hS x (List.mem_cons_of_mem _ hx), row_kind l k (hS r List.mem_cons_self) h]
    exact key _ fun r hr => List.mem_of_mem_take hr⟩
theorem rows_apart {R : List Row2} {g : Int → DF} (l : LeastR R g) {j : Nat} {r : Row2} (h : R[j]? = some r) (d : Int) : (whF R j d && r.1 d) = false := by
  cases e : whF R j d && r.1 d with
  | false => rfl
  | true =>
    rw [Bool.and_eq_true] at e
    obtain ⟨e1, e2⟩ := e
    unfold whF at e1
    rw [List.any_eq_true] at e1
    obtain ⟨s, hs, hd⟩ := e1
    have hr := List.mem_of_getElem? h
    have eq := (l.t.is s (List.mem_of_mem_take hs) d hd).trans (l.t.is r hr d e2).symm
    obtain ⟨i, hi, ei⟩ := List.mem_iff_getElem.mp hs
    rw [List.length_take] at hi
    rw [List.getElem_take] at ei
    obtain ⟨hj, ej⟩ := List.getElem?_eq_some_iff.mp h
    have := (List.pairwise_iff_getElem.mp l.un) i j (by omega) hj (by omega)
    rw [ei, ej] at this
    exact absurd eq this
theorem RowsAt.lx {C d : Addr} {H H' : Hp} {kvs : List (Key × V)} {vs : List V} {R : List Row2} (h : RowsAt C H vs R) (l : LeX d H H') (hd : H d = some (.dK kvs)) : RowsAt C H' vs R := by
  induction h with
  | nil => exact .nil
  | cons h _ ih => exact .cons (h.lx l hd) ih
structure W51 (P : Program) (w : World) (K : PySem.W.Frag) (mg : Str → Option Value) (base : Heap) (C X p fh lr lf : Addr) (us vs : List V) (R : List Row2) (fs : List (Str × Str)) (g : Int → DF) (H : Hp) : Prop where
  ch : IsChart C X H p g
  rows : RowsAt C H us R
  lr_ : H lr = some (.lst us)
  lf_ : H lf = some (.lst vs)
  pr : All2 (PairAt H) vs fs
  cl : ClAt P w K mg base 4 H fh (gP g)
section
variable {C X p fh lr lf d dl : Addr} {us vs : List V} {R : List Row2} {fs : List (Str × Str)} {g : Int → DF} {H H' : Hp} {n : Int}
theorem W51.le (h : W51 P w K mg base C X p fh lr lf us vs R fs g H) (l : Le H H') : W51 P w K mg base C X p fh lr lf us vs R fs g H' :=
  ⟨h.ch.le l, h.rows.le l, l _ _ h.lr_, l _ _ h.lf_, h.pr.imp fun v f h => h.le l, h.cl.le l⟩
theorem W51.lp (h : W51 P w K mg base C X p fh lr lf us vs R fs g H) (l : LeX d H H') (pn : IsPen H d dl n) : W51 P w K mg base C X p fh lr lf us vs R fs g H' := by
  obtain ⟨kk, hd⟩ := pn.dict
  refine ⟨h.ch.ex l.ex pn, h.rows.lx l hd, l _ _ (pn.ne h.lr_) h.lr_, l _ _ (pn.ne h.lf_) h.lf_, h.pr.imp fun v f h => ?_, h.cl.ex l.ex pn⟩
  obtain ⟨t, e, h⟩ := h
  exact ⟨t, e, l _ _ (fun c => by rw [c, hd] at h; cases h) h⟩
end
theorem RowsAt.ages {C : Addr} {H : Hp} {vs : List V} {R : List Row2} (h : RowsAt C H vs R) : ∃ bs : List Addr, bs.length = R.length ∧ ∀ (i : Nat) (v : V), vs[i]? = some v → ∃ (r : Row2) (b t a : Addr), R[i]? = some r ∧ bs[i]? = some b ∧ v = .ref t ∧ H t = some (.tup [.ref a, .ref b]) ∧ IsDay C H a r.1 ∧ IsDay C H b r.2 := by
  induction h with
  | nil => exact ⟨[], rfl, fun i v h => by simp at h⟩
  | cons h _ ih =>
    obtain ⟨bs, h1, h2⟩ := ih
    obtain ⟨t, a, b, e, ht, da, db, _, _⟩ := h
    refine ⟨b :: bs, by rw [List.length_cons, List.length_cons, h1], fun i v hv => ?_⟩
    cases i with
    | zero =>
      cases hv
      exact ⟨_, b, t, a, rfl, rfl, e, ht, da, db⟩
    | succ i => exact h2 i v hv
theorem filterMap_one {α : Type} {f : Nat → Option α} {v : α} : ∀ {n k : Nat}, k < n → f k = some v → (∀ j, j < n → j ≠ k → f j = none) → (List.range n).filterMap f = [v]
  | 0, k, h, _, _ => absurd h (by omega)
  | n + 1, k, h, hv, hn => by
    rw [List.range_succ, List.filterMap_append]
    by_cases c : k = n
    · subst c
      have e : (List.range k).filterMap f = [] := by
        rw [List.filterMap_eq_nil_iff]
        exact fun j hj => hn j (by have := List.mem_range.mp hj; omega) (by have := List.mem_range.mp hj; omega)
      rw [e, List.nil_append, List.filterMap_cons, hv]
      rfl
    · rw [filterMap_one (by omega) hv fun j hj => hn j (by omega), List.filterMap_cons, hn n (by omega) (by omega)]
      rfl
def sp_law (K : PySem.W.Frag) (PT PH : Addr) : Sp := fun vs H Q _ => ∃ (a : Addr) (xs : List Int), vs = [.ref a] ∧ SqL K H a (xs.map V.int) ∧ xs.length ≤ 63 ∧ H PT = some (.tbl #[]) ∧ H PH = some (.tbl #[]) ∧ ∀ H', Q (.bl true) H'
theorem ok_law {C X PT PH f : Addr} {fd : FuncData} (T : Txt K mg) (ST : SetT mg) (D : DSC K mg C) (DC : DCC K mg X) (F : C8.Fun K "law" "law" s_law f fd) (C__law_pen : Cal P w K mg base 1 "_law_pen" (sp_pen (K := K)) []) (C__law_draw : Cal P w K mg base 1 "_law_draw" sp_draw [])
    (C__law_chart : Cal P w K mg base 6 "_law_chart" (sp_chartU 2) []) (C__law_chart_made : Cal P w K mg base 14 "_law_chart_made" (sp_cmadeU C X 2) []) (C__law_chart_has : Cal P w K mg base 6 "_law_chart_has" (sp_chasU P w K mg base [(PT, nmD), (PH, nmH)] 2) [])
    (C__law_forms : Cal P w K mg base 3 "_law_forms" (sp_forms C X) [])
    (K_Chart_none : CMt P w K mg base 11 X "none" (sp_ckst C X false)) (K_Chart_of : CMt P w K mg base 11 X "of" (sp_cof C X)) (K_DaySet_none : CMt P w K mg base 6 C "none" (sp_kst C false)) (K_DaySet_every : CMt P w K mg base 6 C "every" (sp_kst C true))
    (Q_Chart_rows : Met P w K mg base 1 X "rows" (sp_crows C X) []) (Q_Chart___invert__ : Met P w K mg base 11 X "__invert__" (sp_cinv C X) []) (Q_Chart___or__ : Met P w K mg base 11 X "__or__" (sp_cbin C X fun a b => a || b) []) (Q_Chart___sub__ : Met P w K mg base 11 X "__sub__" (sp_cbin C X fun a b => a && !b) [])
    (Q_Chart___eq__ : Met P w K mg base 12 X "__eq__" (sp_crel C X fun g g' => ∀ d a, g d a = g' d a) [])
    (Q_DaySet___or__ : Met P w K mg base 7 C "__or__" (sp_bin C fun a b => a || b) []) (Q_DaySet___and__ : Met P w K mg base 7 C "__and__" (sp_bin C fun a b => a && b) []) (Q_DaySet___bool__ : Met P w K mg base 1 C "__bool__" (sp_bool C) []) (Q_DaySet___eq__ : Met P w K mg base 3 C "__eq__" (sp_eq C) [])
    (Q_DaySet___contains__ : Met P w K mg base 2 C "__contains__" (sp_has C) []) : FnG P w K mg base 16 f fd P_law (sp_law K PT PH) := by
  refine fnG F sc_law (fun vs H Q E h => by obtain ⟨_, _, rfl, _⟩ := h; rfl) (fun cdv A outer s H vs Q E gd hr h => ?_)
  obtain ⟨a, xs, rfl, hs, hx, hPT, hPH, qq⟩ := h
  have nd := sc_law.nd
  refine ⟨_, (pss_cons (ps_set (i := 1) nd rfl (Or.inl rfl) (pe_c C__law_pen hr (by decide) rfl (pa_cons (pv 0) pa_nil)))
      (C8.pss_cut (ps_for PassesOwn.never rfl (pi_range1 (by rfl) T.b_range (pa_cons (pe_op op_add pe_int (pe_callB (call_min2 rfl) (by rfl) T.b_min (by decide +kernel) (pa_cons pe_int (pa_cons (pe_callB call_len_seq (by rfl) T.b_len (by decide +kernel) (pa_cons (pv 0) pa_nil)) pa_nil)))) pa_nil)) (pg_name (i := 2) nd rfl (Or.inl rfl)) (pss_cons (ps_set (i := 3) nd rfl (Or.inl rfl) (pe_c C__law_chart hr (by decide) rfl (pa_cons (pv 1) (pa_cons pe_int pa_nil))))
      (pss_cons (ps_par (i := 4) (j := 5) (by rfl) nd rfl rfl (by decide) rfl rfl (pa_cons (pe_c C__law_chart_made hr (by decide) rfl (pa_cons (pv 3) pa_nil)) (pa_cons (pe_c C__law_chart_has hr (by decide) rfl (pa_cons (pv 3) pa_nil)) pa_nil)) (by rfl))
      (pss_cons (ps_par (i := 6) (j := 7) (by rfl) nd rfl rfl (by decide) rfl rfl (pa_cons (pe_mt0 Q_Chart_rows hr (by decide) (pv 4)) (pa_cons (pe_c C__law_forms hr (by decide) rfl (pa_cons (pv 4) pa_nil)) pa_nil)) (by rfl))
      (pss_cons (ps_setLc (i := 8) (own := [("_law_days_here", 9), ("_law_ages", 10)]) (g := (gTup K 2 (gCons (gName 9) (gCons (gName 10) gNil)))) (by rfl) nd rfl rfl (sw_true rfl rfl rfl (by decide +kernel)) (pi_list (pv 7)) (blkOk_by (own := [("_law_days_here", 9), ("_law_ages", 10)]) (N := N_law) (sc := C8.fnScope s_law) (by decide +kernel)) (fun _ _ _ _ _ => (pg_tupK (K := K) rfl rfl (pgs_cons (pg_name (i := 9) nd rfl (Or.inl rfl) (Or.inr rfl)) (pgs_cons (pg_name (i := 10) nd rfl (Or.inl rfl) (Or.inr rfl)) pgs_nil)))) (fun _ _ _ _ _ => pts_nil) (fun _ _ _ _ _ => (pv 10)))
      (pss_cons (ps_if (PW.pt (pw_or (pt_cmpR (op_neD hr.units) (pv 8) (pe_callB (cr_sortedSS rfl) (by rfl) T.b_sorted (by decide +kernel) (pa_cons (pe_callTy (cr_setOfS rfl) (by rfl) ST.b_set (by decide +kernel) (pa_cons (pv 8) pa_nil)) pa_nil)) (nomark _)) (pw_or1 (pt_cmpR (op_eqE hr.units) (pv 6) (pe_lst pa_nil) (nomark _))))) (pss_one (ps_ret pe_bl)) pss_nil)
      (pss_cons (ps_par (i := 11) (j := 12) (by rfl) nd rfl rfl (by decide) rfl rfl (pa_cons (pe_cm0 K_DaySet_none hr (by decide) (pe_gc rfl D.g)) (pa_cons (pe_cm0 K_Chart_none hr (by decide) (pe_gc rfl DC.g)) pa_nil)) (by rfl))
      (C8.pss_cut (ps_for PassesOwn.never rfl (pi_list (pv 6)) (pg_tup rfl (pgs_cons (pg_name (i := 9) nd rfl (Or.inl rfl)) (pgs_cons (pg_name (i := 10) nd rfl (Or.inl rfl)) pgs_nil))) (pss_cons (ps_if (PW.pt (pw_or (pt_not (pt_own Q_DaySet___bool__ hr (by decide) (pv 9))) (pw_or1 (pt_own Q_DaySet___bool__ hr (by decide) (pe_op (op_ownM D.sf Q_DaySet___and__ hr (by decide)) (pv 11) (pv 9)))))) (pss_one (ps_ret pe_bl)) pss_nil)
      (pss_one (ps_par (i := 11) (j := 12) (by rfl) nd rfl rfl (by decide) rfl rfl (pa_cons (pe_op (op_ownM D.sf Q_DaySet___or__ hr (by decide)) (pv 11) (pv 9)) (pa_cons (pe_op (op_ownM DC.sf Q_Chart___or__ hr (by decide)) (pe_cm K_Chart_of hr (by decide) (pe_gc rfl DC.g) (pa_cons (pv 9) (pa_cons (pv 10) pa_nil))) (pv 12)) pa_nil)) (by rfl)))))
      (pss_cons (ps_if (PW.pt (pw_or (pt_cmpR (op_ownNeM Q_DaySet___eq__ D.ne D.ob hr (by decide)) (pv 11) (pe_cm0 K_DaySet_every hr (by decide) (pe_gc rfl D.g)) (nomark _)) (pw_or (pt_cmpR (op_ownNeM Q_Chart___eq__ DC.ne DC.ob hr (by decide)) (pv 12) (pv 4) (nomark _)) (pw_or1 (pt_cmpR (op_neD hr.units) (pe_c C__law_forms hr (by decide) rfl (pa_cons (pv 12) pa_nil)) (pv 7) (nomark _)))))) (pss_one (ps_ret pe_bl)) pss_nil)
      (pss_cons (ps_if (PW.pt (pw_or (pt_cmpR (op_neD hr.units) (pe_c C__law_forms hr (by decide) rfl (pa_cons (pe_un (un_ownInvM Q_Chart___invert__ hr (by decide)) (pe_un (un_ownInvM Q_Chart___invert__ hr (by decide)) (pv 4))) pa_nil)) (pv 7) (nomark _)) (pw_or1 (pt_cmpR (op_neD hr.units) (pe_c C__law_forms hr (by decide) rfl (pa_cons (pe_op (op_ownM DC.sf Q_Chart___sub__ hr (by decide)) (pe_op (op_ownM DC.sf Q_Chart___or__ hr (by decide)) (pv 4) (pv 12)) (pe_cm0 K_Chart_none hr (by decide) (pe_gc rfl DC.g))) pa_nil)) (pv 7) (nomark _))))) (pss_one (ps_ret pe_bl)) pss_nil)
      (C8.pss_cut (ps_for PassesOwn.never rfl (pi_range1 (by rfl) T.b_range (pa_cons pe_int pa_nil)) (pg_name (i := 13) nd rfl (Or.inl rfl)) (pss_cons (ps_asg (pe_tup (pa_cons (pe_op op_sub (pe_c C__law_draw hr (by decide) rfl (pa_cons (pv 1) (pa_cons pe_int pa_nil))) pe_int) (pa_cons (pe_op op_sub (pe_c C__law_draw hr (by decide) rfl (pa_cons (pv 1) (pa_cons pe_int pa_nil))) pe_int) pa_nil))) (pg_tup rfl (pgs_cons (pg_name (i := 14) nd rfl (Or.inr rfl)) (pgs_cons (pg_name (i := 15) nd rfl (Or.inl rfl)) pgs_nil))))
      (pss_cons (ps_setLc (i := 16) (own := [("_law_days_here", 9), ("_law_ages", 10)]) (g := (gTup K 2 (gCons (gName 9) (gCons (gName 10) gNil)))) (by rfl) nd rfl rfl (sw_true rfl rfl rfl (by decide +kernel)) (pi_list (pv 6)) (blkOk_by (own := [("_law_days_here", 9), ("_law_ages", 10)]) (N := N_law) (sc := C8.fnScope s_law) (by decide +kernel)) (fun _ _ _ _ _ => (pg_tupK (K := K) rfl rfl (pgs_cons (pg_name (i := 9) nd rfl (Or.inl rfl) (Or.inr rfl)) (pgs_cons (pg_name (i := 10) nd rfl (Or.inl rfl) (Or.inr rfl)) pgs_nil)))) (fun _ _ _ _ _ => pts_one (pt_cmpR (op_ownInM Q_DaySet___contains__ hr (by decide)) (pv 14) (pv 9) (by rfl))) (fun _ _ _ _ _ => (pv 10)))
      (pss_one (ps_if (PW.pt (pw_or (pt_cmpR op_ne (pe_callB call_len_seq (by rfl) T.b_len (by decide +kernel) (pa_cons (pv 16) pa_nil)) pe_int (nomark _)) (pw_or1 (pt_cmpR op_ne (pe_cmpR (op_ownInM Q_DaySet___contains__ hr (by decide)) (pv 15) (pe_ix ix_list (pv 16) pe_int (fun _ _ => rfl)) (by rfl)) (pe_cloK (P := P) (w := w) (K := K) (mg := mg) (base := base) (i := 5) (k := 4) ⟨rfl, rfl, rfl, rfl, rfl⟩ (hr.mono (by first | decide | exact Nat.le_refl _ | omega)) (by rfl) (by first | exact Or.inl rfl | exact Or.inr (Or.inl rfl) | exact Or.inr (Or.inr rfl)) (pa_cons (pv 14) (pa_cons (pv 15) pa_nil))) (nomark _))))) (pss_one (ps_ret pe_bl)) pss_nil)))))
      (pss_cons (ps_expr (pe_bm0 PySem.F.plainAttrs_list PySem.F.slot_list_clear PySem.F.type_list_clear mt_clear (pe_mt0 Q_Chart_rows hr (by decide) (pv 4))))
      (pss_one (ps_if (pt_cmpR (op_neD hr.units) (pe_c C__law_forms hr (by decide) rfl (pa_cons (pv 4) pa_nil)) (pv 7) (nomark _)) (pss_one (ps_ret pe_bl)) pss_nil))))))))))))))
      (pss_one (ps_ret pe_bl)))), ?_⟩
  refine ⟨_, rfl, a, xs, rfl, hs, hx, fun d dl H1 l1 hd hdl p1 => ?_⟩
  refine ⟨fun _ _ => True, ?_, fun _ _ _ => qq _⟩
  have tT : TabsN [(PT, nmD), (PH, nmH)] H1 := fun q hq => by
    rcases List.mem_cons.mp hq with rfl | hq
    · exact TabN.nil (l1 _ _ hPT)
    · rw [List.mem_singleton.mp hq]
      exact TabN.nil (l1 _ _ hPH)
  have hsL : SqL K H1 a (xs.map V.int) := hs.elim (fun r => .inl (r.elim (fun e => .inl (l1 _ _ e)) (fun ⟨o, e⟩ => .inr ⟨o, l1 _ _ e⟩))) .inr
  refine ⟨_, rfl, a, _, rfl, .inl hsL, _, _, rfl, ?_⟩
  have hmn : ∃ mn : Int, (if (((xs.map V.int).length : Nat) : Int) < 3 then (((xs.map V.int).length : Nat) : Int) else 3) = mn ∧ 0 ≤ mn ∧ mn ≤ 3 := ⟨_, rfl, by split <;> omega, by split <;> omega⟩
  obtain ⟨mn, emn, mn0, mn1⟩ := hmn
  rw [emn]
  refine ⟨_, _, rfl, rfl, _, rfl, by omega, by omega, ?_⟩
  clear emn hsL
  refine for_it walk_range (fun i σ H' => IsPen H' d dl (i * 5000) ∧ TabsN [(PT, nmD), (PH, nmH)] H' ∧ ∃ x2 x3 x4 x5 x6 x7 x8 x9 x10 x11 x12 x13 x14 x15 x16, σ = [some (.ref a), some (.ref d), x2, x3, x4, x5, x6, x7, x8, x9, x10, x11, x12, x13, x14, x15, x16]) ?_ (fun _ _ _ _ _ => trivial) ?_ (fun _ _ _ => trivial)
  · exact ⟨p1.mono (by decide), tT, none, none, none, none, none, none, none, none, none, none, none, none, none, none, none, rfl⟩
  rintro i x σ Ha Hb hi ⟨pa, tTa, x2, x3, x4, x5, x6, x7, x8, x9, x10, x11, x12, x13, x14, x15, x16, rfl⟩ ⟨rfl, rfl⟩
  have hi4 : i < 4 := by omega
  refine ⟨_, rfl, 2, Nat.le_refl 2, d, dl, _, rfl, pa, by omega, fun v1 c1 H3 l3 p3 tr1 ok1 dp1 => ?_⟩
  have T3 := tabs_lx tTa l3 pa
  obtain ⟨r1, rfl⟩ := tr1.ref
  have m1 : c1.m ≤ 16 := Nat.le_trans c1.m_le (Nat.le_trans (Nat.pow_le_pow_right (by decide) (Nat.pow_le_pow_right (by decide) dp1)) (by decide))
  obtain ⟨κ, dep⟩ := c1.kinds
  refine ⟨_, rfl, .ref r1, c1, rfl, tr1, ok1, by omega, by omega, fun p H4 l4 hp => ?_⟩
  have p4 := p3.le l4
  have T4 := NdefX.TabsN.ext T3 l4
  have tr4 := tr1.le l4
  clear tr1 p3 T3 l3 pa tTa
  refine ⟨_, rfl, .ref r1, c1, rfl, tr4, ok1, by omega, T4, fun fh H5 x5' T5 cn => ⟨_, _, rfl, ?_⟩⟩
  have Kh := cn.at
  have hp5 := hp.n x5'
  have p5 := p4.n x5'
  clear cn hp p4 T4 tr4 x5' l4
  obtain ⟨dx5, _, _, _, e5, -⟩ := id hp5
  refine ⟨_, rfl, p, dx5, _, rfl, e5, by rfl, ?_⟩
  refine ⟨p, c1.g, κ, c1.m, rfl, hp5, dep, by omega, fun lr us R H6 l6 nlr elr hR lR sR => ?_⟩
  refine ⟨_, rfl, p, c1.g, κ, c1.m, rfl, hp5.le l6, dep, by omega, fun lf vs fs H7 l7 nlf elf hvs hfs hfl => ⟨_, _, rfl, ?_⟩⟩
  have Kh7 : ClAt P w K mg base 4 H7 fh (gP c1.g) := (Kh.le l6).le l7
  have hp7 := (hp5.le l6).le l7
  have p7 := (p5.le l6).le l7
  have T7 := NdefX.TabsN.ext (NdefX.TabsN.ext T5 l6) l7
  have hR7 := hR.le l7
  have elr7 := l7 _ _ elr
  clear hR elr hp5 p5 T5 e5 Kh l7 l6
  -- the words
  have hvl := hvs.len
  refine ⟨_, rfl, lf, rfl, ⟨_, .of elf⟩, fun lw nlw => ?_⟩
  refine lc_pure (walk_list (xs := vs)) nlw (le_szl _ (by omega)) (fun H4 l4 => .of (l4 _ _ elf)) yat_le (fun k => (fs[k]?).map fun f => V.str f.2) ?_ ?_
  · rintro k x Hx Hy hk2 lx ⟨rfl, hx2⟩ N hN
    obtain ⟨f2, hf2, t2, rfl, ht3⟩ := hvs.get hx2
    have hN := hN Hy .refl
    simp only [hf2, Option.map_some] at hN
    refine ⟨t2, _, rfl, .of (lx _ _ ht3), rfl, _, _, rfl, _, _, rfl, rfl, rfl, ?_⟩
    exact ⟨_, rfl, hN⟩
  intro H8 l8 e8
  have e2 : ((List.range vs.length).filterMap fun k => (fs[k]?).map fun f => V.str f.2) = (fs.map Prod.snd).map V.str := by
    rw [hvl]
    have h1 := fm_bind fs (fun f => some (V.str f.2))
    have h2 : fs.filterMap (fun f => some (V.str f.2)) = (fs.map Prod.snd).map V.str := by
      rw [List.map_map, ← List.filterMap_eq_map]
      rfl
    rw [← h2, ← h1]
    refine congrArg (fun g => List.filterMap g _) (funext fun k => ?_)
    cases fs[k]? <;> rfl
  rw [e2] at e8
  have Kh8 := Kh7.le l8
  have hp8 := hp7.le l8
  have p8 := p7.le l8
  have T8 := NdefX.TabsN.ext T7 l8
  have hR8 := hR7.le l8
  have elr8 := l8 _ _ elr7
  have elf8 := l8 _ _ elf
  have hvs8 : All2 (PairAt H8) vs fs := hvs.imp fun v f h => h.le l8
  clear Kh7 hp7 p7 T7 hR7 elr7 elf hvs l8
  obtain ⟨ws, hws⟩ : ∃ ws, ws = fs.map Prod.snd := ⟨_, rfl⟩
  have wl : ws.length ≤ 16 := by rw [hws, List.length_map]; omega
  have wasc : ws.Pairwise ltS := by rw [hws]; exact hfs.asc
  have wok : ∀ z ∈ ws, PyData.strOk z = true := fun z hz => by
    rw [hws] at hz
    obtain ⟨f, hf, rfl⟩ := List.mem_map.mp hz
    obtain ⟨S, _, _, h⟩ := hfs
    exact (h.ok f hf).2
  rw [← hws] at e8
  refine ⟨_, rfl, _, rfl, lw, ws, rfl, .of e8, by omega, fun ps c nps hcl => ?_⟩
  refine ⟨ps, _, c, rfl, upd_self, by omega, fun ys q so ndy mem nq => ?_⟩
  have eyw : ys = ws := Los.ext ltS_so (ltS_asc so ndy) wasc fun z => by rw [mem z, decide_eq_true_iff]
  subst eyw
  have ls1 := (Le.new nps).trans (Le.new (o := .lst (ys.map V.str)) nq)
  refine ⟨_, _, .lst (.of (ls1 _ _ e8)) (dpAll_str ys), .lst (.of upd_self) (dpAll_str ys), shaped_txts ys wok, shaped_txts ys wok, _, rfl, ?_⟩
  have ee : PyData.eqv (.list (ys.map PyData.str)) (.list (ys.map PyData.str)) = true := by
    have := eqv_row ys ys
    rw [decide_eq_true rfl] at this
    exact this
  rw [ee]
  refine ite2 (fun c => by cases c) (fun _ => ?_)
  refine ⟨_, rfl, le_szl 0 (by decide), fun l0 nl0 => ?_⟩
  have ls2 := ls1.trans (Le.new (o := .lst []) nl0)
  have hul : us.length = R.length := hR8.len
  have hR1 : 1 ≤ R.length := by
    obtain ⟨r, hr, _⟩ := lR.t.cov 0
    exact List.length_pos_of_mem hr
  refine ⟨_, _, _, _, rfl, rfl, .of (ls2 _ _ elr8), .of upd_self, .inr rfl, _, rfl, ?_⟩
  refine ite2 (fun c => ?_) (fun _ => ?_)
  · rw [if_neg (by decide), decide_eq_true_iff] at c
    rw [hul] at c
    simp only [List.length_nil] at c
    omega
  have Kh9 := Kh8.le ls2
  have hp9 := hp8.le ls2
  have p9 := p8.le ls2
  have T9 := NdefX.TabsN.ext T8 ls2
  have hR9 := hR8.le ls2
  have elr9 := ls2 _ _ elr8
  have elf9 := ls2 _ _ elf8
  have hvs9 : All2 (PairAt _) vs fs := hvs8.imp fun v f h => h.le ls2
  generalize upd (upd (upd H8 ps (SetSO P w ps (fun j => decide (j ∈ ys)) c)) q (.lst (ys.map V.str))) l0 (.lst []) = H9 at Kh9 hp9 p9 T9 hR9 elr9 elf9 hvs9 ⊢
  clear ls2 ls1 ee nl0 nq nps so ndy mem Kh8 hp8 p8 T8 hR8 elr8 elf8 hvs8 e8
  -- put together again
  refine ⟨rfl, rfl, fun w0 H10 l10 dw0 nw0 => ⟨rfl, rfl, fun g0 H11 l11 hg0 ng0 => ⟨_, _, rfl, ?_⟩⟩⟩
  have lA := l10.trans l11
  have Kh11 := Kh9.le lA
  have hp11 := hp9.le lA
  have p11 := p9.le lA
  have T11 := NdefX.TabsN.ext T9 lA
  have hR11 := hR9.le lA
  have elr11 := lA _ _ elr9
  have elf11 := lA _ _ elf9
  have hvs11 : All2 (PairAt H11) vs fs := hvs9.imp fun v f h => h.le lA
  have dw11 := dw0.le l11
  clear Kh9 hp9 p9 T9 hR9 elr9 elf9 hvs9 lA nw0 ng0 dw0 l10 l11
  refine ⟨fun σ' H' => Le H11 H' ∧ ∃ v9 v10 pw pg, σ' = [some (.ref a), some (.ref d), some (.int (0 + (i : Nat))), some (.ref r1), some (.ref p), some (.ref fh), some (.ref lr), some (.ref lf), some (.ref lw), v9, v10, some (.ref pw), some (.ref pg), x13, x14, x15, x16] ∧ IsDay C H' pw (fun _ => true) ∧ IsChart C X H' pg c1.g, ?_, ?_⟩
  · refine ⟨_, rfl, lr, rfl, ⟨_, .of elr11⟩, ?_⟩
    refine for_it (walk_list (xs := us)) (fun j σ' H' => Le H11 H' ∧ ∃ v9 v10 pw pg, σ' = [some (.ref a), some (.ref d), some (.int (0 + (i : Nat))), some (.ref r1), some (.ref p), some (.ref fh), some (.ref lr), some (.ref lf), some (.ref lw), v9, v10, some (.ref pw), some (.ref pg), x13, x14, x15, x16] ∧ IsDay C H' pw (whF R j) ∧ OkC (whF R j) ∧ IsChart C X H' pg (agF R j)) ?_ (fun _ _ _ _ h => .of (h.1 _ _ elr11)) ?_ (fun σ' H' h => ?_)
    · exact ⟨.refl, _, _, w0, g0, rfl, dw11.to fun n => rfl, okK false, hg0.to fun d a => rfl⟩
    · rintro j v σ' Hc Hd hj ⟨lc, v9, v10, pw, pg, rfl, dw, okw, hg⟩ ⟨rfl, hv⟩
      obtain ⟨r, hr, t, ra, rb, rfl, ht, da, db, oa, ob⟩ := hR11.get hv
      have hrR := List.mem_of_getElem? hr
      have da := da.le lc
      have db := db.le lc
      refine ⟨t, _, rfl, .of (lc _ _ ht), rfl, _, _, rfl, _, _, rfl, rfl, ?_⟩
      obtain ⟨Fa, dxa, La, za, ma, ea⟩ := id da
      obtain ⟨Fw, dxw, Lw, zw, mw, ew⟩ := id dw
      refine ⟨_, rfl, ra, dxa, _, rfl, ea, ra, _, rfl, da, fun b hb => ⟨b, rfl, ?_⟩⟩
      have hbt : b = true := hb.mpr (lR.ne r hrR)
      subst hbt
      refine ite2 (fun c => by cases c) (fun _ => ?_)
      refine ⟨_, rfl, _, rfl, pw, ra, dxw, dxa, _, _, rfl, rfl, ew, ea, pw, ra, _, _, 12, 200, rfl, dw, da, okw, oa, fun q2 H12 l12 dq2 nq2 => ?_⟩
      obtain ⟨F2, dx2, L2', z2, m2, e2'⟩ := id dq2
      refine ⟨q2, dx2, _, rfl, e2', q2, _, rfl, dq2, fun b hb => ⟨b, rfl, ?_⟩⟩
      have hbf : b = false := by
        cases b with
        | false => rfl
        | true =>
          obtain ⟨n, hn⟩ := hb.mp rfl
          have hn' : (whF R j n && r.1 n) = true := hn
          rw [rows_apart lR hr n] at hn'
          cases hn'
      subst hbf
      refine ite2 (fun c => by cases c) (fun _ => ?_)
      have dw2 := dw.le l12
      have da2 := da.le l12
      have db2 := db.le l12
      have hg2 := hg.le l12
      clear dq2 e2' nq2
      obtain ⟨Fa2, dxa2, La2, za2, ma2, ea2⟩ := id da2
      obtain ⟨Fw2, dxw2, Lw2, zw2, mw2, ew2⟩ := id dw2
      refine ⟨_, rfl, _, rfl, pw, ra, dxw2, dxa2, _, _, rfl, rfl, ew2, ea2, pw, ra, _, _, 12, 200, rfl, dw2, da2, okw, oa, fun q3 H13 l13 dq3 nq3 => ?_⟩
      have da3 := da2.le l13
      have db3 := db2.le l13
      have hg3 := hg2.le l13
      refine ⟨rfl, _, rfl, _, rfl, ra, rb, r.1, r.2, rfl, da3, db3, oa, ob, fun q4 H14 l14 hq4 nq4 => ?_⟩
      have hg4 := hg3.le l14
      obtain ⟨dx4, _, _, _, e4, -⟩ := id hq4
      obtain ⟨dx5', _, _, _, e5', -⟩ := id hg4
      refine ⟨_, rfl, q4, pg, dx4, dx5', _, _, rfl, rfl, e4, e5', q4, pg, _, _, κ, c1.m, rfl, hq4, hg4, dep_row lR dep hrR, dep_ag lR dep j, by omega, fun q6 H16 l16 hq6 nq6 => ⟨_, _, rfl, ?_⟩⟩
      have lB := ((l12.trans l13).trans l14).trans l16
      have dq := (dq3.le l14).le l16
      exact ⟨lc.trans lB, _, _, q3, q6, rfl, dq.to fun n => (whF_succ hr n).symm, (okw.bin oa fun a b => a || b).to fun n => (whF_succ hr n).symm, hq6.to fun d a => (agF_succ hr d a).symm⟩
    · obtain ⟨lc, v9, v10, pw, pg, e, dw, okw, hg⟩ := h
      rw [hul] at dw hg
      exact ⟨lc, v9, v10, pw, pg, e, dw.to fun n => whF_all lR n, hg.to fun d a => agF_all lR d a⟩
  rintro σ' H12 ⟨l12, v9, v10, pw, pg, rfl, dw, hg⟩
  have Kh12 := Kh11.le l12
  have hp12 := hp11.le l12
  have p12 := p11.le l12
  have T12 := NdefX.TabsN.ext T11 l12
  have hR12 := hR11.le l12
  have elr12 := l12 _ _ elr11
  have elf12 := l12 _ _ elf11
  have hvs12 : All2 (PairAt H12) vs fs := hvs11.imp fun v f h => h.le l12
  clear Kh11 hp11 p11 T11 hR11 elr11 elf11 hvs11 l12 dw11
  have fok : ∀ f ∈ fs, PyData.strOk f.1 = true ∧ PyData.strOk f.2 = true := by
    obtain ⟨S, _, _, h⟩ := id hfs
    exact h.ok
  have ee := eqv_forms fs
  have es := shaped_forms fs fok
  refine ⟨_, rfl, rfl, rfl, fun q1 H13 l13 dq1 nq1 => ?_⟩
  have dw13 := dw.le l13
  obtain ⟨Fw, dxw, Lw, zw, mw, ew⟩ := id dw13
  obtain ⟨Fq, dxq, Lq, zq, mq, eq⟩ := id dq1
  refine ⟨pw, q1, dxw, dxq, _, _, rfl, rfl, ew, eq, pw, q1, _, _, 12, 200, 12, 200, rfl, dw13, dq1, okK true, okK true, fun e he => ⟨e, rfl, _, rfl, ?_⟩⟩
  have hte : e = true := he.mpr fun _ => rfl
  subst hte
  refine ite2 (fun c => by cases c) (fun _ => ?_)
  have hg13 := hg.le l13
  have hp13 := hp12.le l13
  obtain ⟨dxg, _, _, _, eg, -⟩ := id hg13
  obtain ⟨dxp, _, _, _, ep, -⟩ := id hp13
  refine ⟨_, rfl, _, rfl, pg, p, dxg, dxp, _, _, rfl, rfl, eg, ep, pg, p, _, _, κ, c1.m, rfl, hg13, hp13, dep, dep, by omega, fun e H14 he l14 => ⟨e, rfl, _, rfl, ?_⟩⟩
  have hte : e = true := he.mpr fun _ _ => rfl
  subst hte
  refine ite2 (fun c => by cases c) (fun _ => ?_)
  have hg14 := hg13.le l14
  refine ⟨_, rfl, pg, _, κ, c1.m, rfl, hg14, dep, by omega, fun l2 us2 fs2 H15 l15 nl2 el2 hu2 hf2 _ => ?_⟩
  have ef2 := hfs.uniq hf2
  subst ef2
  have lC := (l13.trans l14).trans l15
  have hvs15 : All2 (PairAt H15) vs fs := hvs12.imp fun v f h => h.le lC
  refine ⟨_, rfl, _, _, .lst (.of el2) (dp_pairs hu2), .lst (.of (lC _ _ elf12)) (dp_pairs hvs15), es, es, _, rfl, ?_⟩
  rw [ee]
  refine ite2 (fun c => by cases c) (fun _ => ?_)
  have Kh15 := Kh12.le lC
  have hp15 := hp12.le lC
  have p15 := p12.le lC
  have T15 := NdefX.TabsN.ext T12 lC
  have hR15 := hR12.le lC
  have elr15 := lC _ _ elr12
  have elf15 := lC _ _ elf12
  have hg15 := hg.le lC
  clear hu2 hf2 el2 nl2 l15 hg14 he l14 ep eg hp13 hg13 ew eq dw13 dq1 nq1 l13 dw hg Kh12 hp12 p12 T12 hR12 elr12 elf12 hvs12 lC
  -- turned twice
  obtain ⟨dxp, _, _, _, ep, -⟩ := id hp15
  refine ⟨_, rfl, p, dxp, _, rfl, ep, p, _, κ, c1.m, rfl, hp15, dep, by omega, fun q1 H16 l16 hq1 nq1 => ?_⟩
  obtain ⟨dx1, _, _, _, e1, -⟩ := id hq1
  refine ⟨q1, dx1, _, rfl, e1, q1, _, κ, c1.m, rfl, hq1, dep.not, by omega, fun q2 H17 l17 hq2 nq2 => ?_⟩
  have hq2' : IsChart C X H17 q2 c1.g := hq2.to fun d a => Bool.not_not _
  refine ⟨q2, _, κ, c1.m, rfl, hq2', dep, by omega, fun l2 us2 fs2 H18 l18 nl2 el2 hu2 hf2 _ => ?_⟩
  have ef2 := hfs.uniq hf2
  subst ef2
  have lD := (l16.trans l17).trans l18
  have hvs18 : All2 (PairAt H18) vs fs := hvs15.imp fun v f h => h.le lD
  refine ⟨_, rfl, _, _, .lst (.of el2) (dp_pairs hu2), .lst (.of (lD _ _ elf15)) (dp_pairs hvs18), es, es, _, rfl, ?_⟩
  rw [ee]
  refine ite2 (fun c => by cases c) (fun _ => ?_)
  have hp18 := hp15.le lD
  have hg18 := hg15.le lD
  obtain ⟨dxp8, _, _, _, ep8, -⟩ := id hp18
  obtain ⟨dxg8, _, _, _, eg8, -⟩ := id hg18
  clear hu2 hf2 el2 nl2 hq2' hq2 nq2 e1 hq1 nq1 l16 l17 l18 ep
  refine ⟨_, rfl, _, rfl, p, pg, dxp8, dxg8, _, _, rfl, rfl, ep8, eg8, p, pg, _, _, κ, c1.m, rfl, hp18, hg18, dep, dep, by omega, fun q3 H19 l19 hq3 nq3 => ?_⟩
  refine ⟨rfl, rfl, fun q4 H20 l20 hq4 nq4 => ?_⟩
  have hq3' := hq3.le l20
  obtain ⟨dx3, _, _, _, e3, -⟩ := id hq3'
  obtain ⟨dx4, _, _, _, e4, -⟩ := id hq4
  refine ⟨q3, q4, dx3, dx4, _, _, rfl, rfl, e3, e4, q3, q4, _, _, κ, c1.m, rfl, hq3', hq4, dep.bin dep (fun a b => a || b), ⟨dep.lt, fun _ _ _ => rfl⟩, by omega, fun q5 H21 l21 hq5 nq5 => ?_⟩
  have hq5' : IsChart C X H21 q5 c1.g := hq5.to fun d a => by
    show ((c1.g d a || c1.g d a) && !false) = c1.g d a
    rw [Bool.or_self]
    cases c1.g d a <;> rfl
  refine ⟨q5, _, κ, c1.m, rfl, hq5', dep, by omega, fun l2 us2 fs2 H22 l22 nl2 el2 hu2 hf2 _ => ?_⟩
  have ef2 := hfs.uniq hf2
  subst ef2
  have lE := lD.trans (((l19.trans l20).trans l21).trans l22)
  have hvs22 : All2 (PairAt H22) vs fs := hvs15.imp fun v f h => h.le lE
  refine ⟨_, rfl, _, _, .lst (.of el2) (dp_pairs hu2), .lst (.of (lE _ _ elf15)) (dp_pairs hvs22), es, es, _, rfl, ?_⟩
  rw [ee]
  refine ite2 (fun c => by cases c) (fun _ => ?_)
  have Kh22 := Kh15.le lE
  have hp22 := hp15.le lE
  have p22 := p15.le lE
  have T22 := NdefX.TabsN.ext T15 lE
  have hR22 := hR15.le lE
  have elr22 := lE _ _ elr15
  have elf22 := lE _ _ elf15
  clear hu2 hf2 el2 nl2 l22 hq5' hq5 nq5 l21 e3 e4 hq3' hq4 nq4 l20 hq3 nq3 l19 ep8 eg8 hp18 hg18 hvs18 lD Kh15 hp15 p15 T15 hR15 elr15 elf15 hg15 hvs15 lE
  -- pairs
  have W22 : W51 P w K mg base C X p fh lr lf us vs R fs c1.g H22 := ⟨hp22, hR22, elr22, elf22, hvs22, Kh22⟩
  have p22 := p22.mono (show (i : Int) * 5000 + 200 * 3 ^ 2 ≤ (i : Int) * 5000 + 1800 by omega)
  clear hp22 hR22 elr22 elf22 hvs22 Kh22
  refine ⟨fun σ' H' => IsPen H' d dl ((i : Int) * 5000 + 4000) ∧ TabsN [(PT, nmD), (PH, nmH)] H' ∧ W51 P w K mg base C X p fh lr lf us vs R fs c1.g H' ∧ ∃ v9 v10 v13 v14 v15 v16, σ' = [some (.ref a), some (.ref d), some (.int (0 + (i : Nat))), some (.ref r1), some (.ref p), some (.ref fh), some (.ref lr), some (.ref lf), some (.ref lw), v9, v10, some (.ref pw), some (.ref pg), v13, v14, v15, v16], ?_, ?_⟩
  · refine ⟨_, rfl, by decide, by decide, ?_⟩
    refine for_it walk_range (fun k σ' H' => IsPen H' d dl ((i : Int) * 5000 + 1800 + (k : Nat) * 4) ∧ TabsN [(PT, nmD), (PH, nmH)] H' ∧ W51 P w K mg base C X p fh lr lf us vs R fs c1.g H' ∧ ∃ v9 v10 v13 v14 v15 v16, σ' = [some (.ref a), some (.ref d), some (.int (0 + (i : Nat))), some (.ref r1), some (.ref p), some (.ref fh), some (.ref lr), some (.ref lf), some (.ref lw), v9, v10, some (.ref pw), some (.ref pg), v13, v14, v15, v16]) ?_ (fun _ _ _ _ _ => trivial) ?_ (fun σ' H' h => ?_)
    · exact ⟨p22.mono (by omega), T22, W22, _, _, _, _, _, _, rfl⟩
    · rintro k y σ' Hc Hd hk ⟨pc, Tc, Wc, v9, v10, v13, v14, v15, v16, rfl⟩ ⟨rfl, rfl⟩
      have hk80 : k < 80 := by
        have : ((80 : Int)).toNat = 80 := by decide
        omega
      refine ⟨_, rfl, d, dl, 61, _, rfl, pc, by omega, by decide, by decide, fun x He le pe _ _ => ⟨_, _, rfl, rfl, ?_⟩⟩
      have We := Wc.lp le pc
      have Te := tabs_lx Tc le pc
      refine ⟨_, rfl, d, dl, 61, _, rfl, pe, by omega, by decide, by decide, fun y Hf lf' pf _ _ => ⟨_, _, rfl, rfl, le_szl 2 (by decide), fun t nt => ?_⟩⟩
      have Wf := We.lp lf' pe
      have Tf := tabs_lx Te lf' pe
      have lt := Le.new (o := .tup [.int (x - 30), .int (y - 30)]) nt
      refine ⟨t, _, rfl, .of upd_self, rfl, _, _, rfl, _, _, rfl, rfl, ?_⟩
      have Wg := Wf.le lt
      have Tg := NdefX.TabsN.ext Tf lt
      have pg' := pf.le lt
      generalize upd Hf t (.tup [.int (x - 30), .int (y - 30)]) = Hg at Wg Tg pg' ⊢
      clear Wf Tf pf lt nt We Te pe lf' le Wc Tc pc
      obtain ⟨bs, hbl, hbs⟩ := Wg.rows.ages
      -- the row of the day
      obtain ⟨r0, hr0, hd0⟩ := lR.t.cov (x - 30)
      obtain ⟨k0, hk0, ek0⟩ := List.mem_iff_getElem.mp hr0
      have er0 := lR.t.is r0 hr0 (x - 30) hd0
      refine ⟨_, rfl, lr, rfl, ⟨_, .of Wg.lr_⟩, fun D nD => ?_⟩
      refine lc_pure (walk_list (xs := us)) nD (le_szl _ (by rw [hul]; have := lR.few dep; omega)) (fun H4 l4 => .of (l4 _ _ Wg.lr_)) yat_le (fun j => (R[j]?).bind fun r => if r.1 (x - 30) = true then (bs[j]?).map V.ref else none) ?_ ?_
      · rintro j xx Hx Hy hj lx ⟨rfl, hx2⟩ N hN
        obtain ⟨r, b, t2, a2, hr, hb, rfl, ht2, da, db⟩ := hbs j xx hx2
        have hN := hN Hy .refl
        simp only [hr, hb, Option.bind_some, Option.map_some] at hN
        obtain ⟨Fa, dxa, La, za, ma, ea⟩ := id (da.le lx)
        refine ⟨t2, _, rfl, .of (lx _ _ ht2), rfl, _, _, rfl, _, _, rfl, rfl, rfl, ?_⟩
        refine ⟨_, rfl, _, rfl, a2, dxa, _, rfl, ea, a2, x - 30, r.1, rfl, da.le lx, ⟨_, rfl, ?_⟩⟩
        refine ⟨_, rfl, ite2 (fun c => ?_) (fun c => ?_)⟩
        · rw [if_neg (by decide)] at c
          rw [if_pos c] at hN
          exact ⟨_, rfl, hN⟩
        · rw [if_neg (by decide)] at c
          rw [if_neg c] at hN
          exact hN
      intro Hh lh eh
      have hk0u : k0 < us.length := by omega
      obtain ⟨r9, b0, t9, a9, hr9, hb0, ev9, ht9, da9, db9⟩ := hbs k0 us[k0] (List.getElem?_eq_getElem hk0u)
      have er9 : r9 = r0 := by
        rw [List.getElem?_eq_getElem hk0, ek0] at hr9
        exact (Option.some.inj hr9).symm
      subst er9
      have el : ((List.range us.length).filterMap fun j => (R[j]?).bind fun r => if r.1 (x - 30) = true then (bs[j]?).map V.ref else none) = [V.ref b0] := by
        refine filterMap_one hk0u (by rw [hr9, Option.bind_some, if_pos hd0, hb0]; rfl) fun j hj hne => ?_
        have hjR : j < R.length := by omega
        rw [List.getElem?_eq_getElem hjR, Option.bind_some]
        refine if_neg fun c => ?_
        have e1 := (lR.t.is R[j] (List.getElem_mem hjR) _ c).trans er0.symm
        have e2 := un_inj lR.un (List.getElem_mem hjR) hr0 e1
        have hp1 := List.pairwise_iff_getElem.mp lR.un
        rcases Nat.lt_or_gt_of_ne hne with h | h
        · exact hp1 j k0 hjR hk0 h (by rw [ek0]; exact e1)
        · exact hp1 k0 j hk0 hjR h (by rw [ek0]; exact e1.symm)
      rw [el] at eh
      have Wh := Wg.le lh
      have Th := NdefX.TabsN.ext Tg lh
      have ph := pg'.le lh
      have db := db9.le lh
      clear Wg Tg pg' el ht9 da9 db9 hbs
      refine ⟨_, rfl, D, [V.ref b0], rfl, .inl (.of eh), ?_⟩
      refine ⟨rfl, _, rfl, ?_⟩
      refine ite2 (fun c => ?_) (fun _ => ?_)
      · rw [decide_eq_true (show V.int (([V.ref b0] : List V).length : Int) = V.int 1 from rfl)] at c
        cases c
      obtain ⟨Fb, dxb, Lb, zb, mb, eb⟩ := id db
      refine ⟨_, rfl, _, rfl, D, _, _, _, rfl, rfl, .of eh, atI_nat (j := 0) (v := V.ref b0) rfl, b0, dxb, _, rfl, eb, b0, y - 30, r9.2, rfl, db, ⟨_, rfl, ?_⟩⟩
      refine ⟨fh, _, rfl, Wh.cl, _, rfl, _, rfl, Wh.cl, _, rfl, ?_⟩
      refine ⟨rfl, _, rfl, ?_⟩
      have ev : r9.2 (y - 30) = c1.g (x - 30) (y - 30) := by rw [er0]
      refine ite2 (fun c => ?_) (fun _ => ?_)
      · rw [if_neg (by decide), ev, decide_eq_true rfl] at c
        cases c
      exact ⟨ph.mono (by omega), Th, Wh, _, _, _, _, _, _, rfl⟩
    · obtain ⟨pc, h⟩ := h
      have : ((80 : Int)).toNat = 80 := by decide
      exact ⟨pc.mono (by omega), h⟩
  rintro σ' H23 ⟨p23, T23, W23, v9', v10', v13, v14, v15, v16, rfl⟩
  obtain ⟨dxz, _, _, _, ez, -⟩ := id W23.ch
  refine ⟨_, rfl, p, dxz, _, rfl, ez, by rfl, ?_⟩
  refine ⟨p, c1.g, κ, c1.m, rfl, W23.ch, dep, by omega, fun lz xz S H24 l24 nlz elz hS lS sS => ?_⟩
  refine ⟨.inl ⟨rfl, _, SqL.of elz⟩, ?_⟩
  refine ⟨lz, _, rfl, rfl, elz, ?_⟩
  have l25 : Le H23 (upd H24 lz (.lst [])) := l24.upd nlz
  generalize upd H24 lz (.lst []) = H25 at l25 ⊢
  have W25 := W23.le l25
  refine ⟨_, rfl, p, c1.g, κ, c1.m, rfl, W25.ch, dep, by omega, fun l2 us2 fs2 H26 l26 nl2 el2 hu2 hf2 _ => ?_⟩
  have ef2 := hfs.uniq hf2
  subst ef2
  have W26 := W25.le l26
  refine ⟨_, rfl, _, _, .lst (.of el2) (dp_pairs hu2), .lst (.of W26.lf_) (dp_pairs W26.pr), es, es, _, rfl, ?_⟩
  rw [ee]
  refine ite2 (fun c => by cases c) (fun _ => ?_)
  have lZ := l25.trans l26
  exact ⟨(p23.le lZ).mono (by rw [Int.natCast_add]; omega), NdefX.TabsN.ext T23 lZ, _, _, _, _, _, _, _, _, _, _, _, _, _, _, _, rfl⟩
end
end Od
end
section
set_option Elab.async false
set_option linter.all false
set_option maxRecDepth 100000
/-! the run's equation, part by part -/
noncomputable section
namespace HandSHeadRun
open PySem PySem.W PySem.Calls PyProof.Rows
def RunL (r : OpenRow) (M : Nat) (w : World) : Prop := ∀ os : OsState, (endF (stepQ (denQ tabQ) r.prog w) M r.prog w os).map (fun s => looksF r.prog (boot_heap w.params) s.abs) = some true
def RunS (r : OpenRow) (q : Program) (M : Nat) (loose : List PySem.Str) (w : World) : Prop := ∀ os : OsState, (endF (stepQ (denQ tabQ) r.prog w) M r.prog w os).map (fun s => seenQ q loose (importedModules r.prog.main.body) (fun s => xlAt q [] s && recOk r.toRowW.records s) s.abs) = some (openGood q loose)
def RunO (r : OpenRow) (H : Hook) (ob : SharedT → H.α) (M : Nat) (w : World) : Prop := ∀ os : OsState, (endF (stepQ (denQ tabQ) r.prog w) M r.prog w os).map (fun s => ob s) = some (H.val w)
theorem map3 {α A B C : Type _} {o : Option α} {f : α → A} {g : α → B} {h : α → C} {a : A} {b : B} {c : C} (h1 : o.map f = some a) (h2 : o.map g = some b) (h3 : o.map h = some c) : o.map (fun s => (f s, g s, h s)) = some (a, b, c) := by
  cases o with
  | none => cases h1
  | some s =>
    have e1 : f s = a := Option.some.inj h1
    have e2 : g s = b := Option.some.inj h2
    have e3 : h s = c := Option.some.inj h3
    show some (f s, g s, h s) = _
    rw [e1, e2, e3]
theorem runEq3 {r : OpenRow} {q : Program} {H : Hook} {ob : SharedT → H.α} {M : Nat} {loose : List PySem.Str} {w : World} (h1 : RunL r M w) (h2 : RunS r q M loose w) (h3 : RunO r H ob M w) : RunEq r q H ob M loose w := fun os => map3 (h1 os) (h2 os) (h3 os)
end HandSHeadRun
end
section
set_option Elab.async false
set_option linter.all false
set_option maxRecDepth 100000
set_option maxHeartbeats 2000000
set_option autoImplicit false
/-! the head: the places that are looked at are told beforehand -/
namespace Od
open PySem PySem.Spec PyProof.Rows L2 He
def obsLG (as : List Addr) (mo : PySem.W.Frag → Bool) (fn : List DefE) (ts : List Str) (g : Addr → Option Obj) : AlT := obsT mo fn ts g (frT g as)
def hookL (as : List Addr) (mo : PySem.W.Frag → Bool) (fn : List DefE) (ts : List Str) : PySem.W.Hook where
  α := AlT
  obs := fun s => obsLG as mo fn ts s.heap.get?
  val := fun _ => (valE fn, true)
  says := fun _ h => ∃ K : PySem.W.Frag, K.In h ∧ NoLT K ∧ obsE mo fn K = valE fn ∧ ∀ x ∈ ts, ∃ p, TabO K h x p
  of := fun w s e => by
    have e1 : obsE mo fn (frT s.heap.get? as) = valE fn := congrArg (fun z : AlT => z.1) e
    have e2 : (ts.all fun x => tabB s.heap.get? (frT s.heap.get? as) x) = true := congrArg (fun z : AlT => z.2) e
    exact ⟨_, frT_in, frT_no, e1, fun x hx => tabB_ok frT_in (List.all_eq_true.mp e2 x hx)⟩
  keeps := fun _ _ _ ⟨K, hK, n, c, t⟩ k => ⟨K, PySem.W.Frag.In.keeps hK k, n, c, fun x hx => by
    obtain ⟨p, h1, h2, h3⟩ := t x hx
    exact ⟨p, h1, h2.keeps k, k _ _ h3⟩⟩
theorem obsLG_eq {as : List Addr} {mo : PySem.W.Frag → Bool} {fn : List DefE} {ts : List Str} {g : Addr → Option Obj} {s : Shared} (h : ∀ a, g a = s.heap.get? a) : obsLG as mo fn ts g = (hookL as mo fn ts).obs s := by
  have e : g = s.heap.get? := funext h
  rw [e] <;> rfl
def obsLE (as : List Addr) (mo : PySem.W.Frag → Bool) (fn : List DefE) (g : Addr → Option Obj) : AlE := obsE mo fn (frG g as)
def hookLE (as : List Addr) (mo : PySem.W.Frag → Bool) (fn : List DefE) : PySem.W.Hook where
  α := AlE
  obs := fun s => obsLE as mo fn s.heap.get?
  val := fun _ => valE fn
  says := fun _ h => ∃ K : PySem.W.Frag, K.In h ∧ obsE mo fn K = valE fn
  of := fun _ _ e => ⟨_, frG_in, e⟩
  keeps := fun _ _ _ ⟨K, hK, c⟩ k => ⟨K, PySem.W.Frag.In.keeps hK k, c⟩
theorem obsLE_eq {as : List Addr} {mo : PySem.W.Frag → Bool} {fn : List DefE} {g : Addr → Option Obj} {s : Shared} (h : ∀ a, g a = s.heap.get? a) : obsLE as mo fn g = (hookLE as mo fn).obs s := by
  have e : g = s.heap.get? := funext h
  rw [e] <;> rfl
end Od
end
set_option Elab.async false
set_option linter.all false
set_option maxRecDepth 100000
set_option maxHeartbeats 0
set_option autoImplicit false
namespace Od
open PySem PySem.Spec PyProof.Rows L2 He
abbrev faL : List Fa := [.glo "divisor_of", .glo "multiple_of", .glo "root_of", .glo "turned_row", .glo "bare_form", .glo "least_form", .glo "is_row", .glo "is_count", .glo "is_number", .glo "merged", .glo "_law_pen", .glo "_law_draw", .glo "_law_pick", .glo "_law_days", .glo "_law_signs", .glo "_law_form", .glo "_law_chart", .glo "_law_chart_has", .glo "_law_chart_made", .glo "_law_forms", .mkr "DaySet", .mkr "Chart", .meth "DaySet" "sign", .meth "DaySet" "days_in", .meth "DaySet" "merged", .meth "DaySet" "__or__", .meth "DaySet" "__and__", .meth "DaySet" "__sub__", .meth "DaySet" "__xor__", .meth "DaySet" "__invert__", .meth "DaySet" "__str__", .meth "DaySet" "__bool__", .meth "DaySet" "__contains__", .meth "DaySet" "__eq__", .meth "Chart" "crossed", .meth "Chart" "__or__", .meth "Chart" "__and__", .meth "Chart" "__sub__", .meth "Chart" "__xor__", .meth "Chart" "__invert__", .meth "Chart" "__eq__", .meth "Chart" "__bool__", .meth "Chart" "rows", .free "len", .free "abs", .free "int", .free "str", .free "min", .free "max", .free "range", .free "all", .free "any", .free "isinstance", .free "bool", .free "list", .free "enumerate", .free "sorted", .free "dict", .free "repr", .free "tuple", .free "zip", .free "sum", .free "reversed", .str "DIGITS" "0123456789", .cls "DaySet", .glo "DaySet", .noat "DaySet" "left", .noat "DaySet" "low", .noat "DaySet" "middle", .noat "DaySet" "right", .noat "DaySet" "high", .cls "Chart", .glo "Chart", .noat "Chart" "pairs", .free "set", .glo "law"]
abbrev exL (K : PySem.W.Frag) : List Bool := [crdB K "DaySet", clmB K "DaySet" "none", clmB K "DaySet" "every", clmB K "DaySet" "read", crdB K "Chart", clmB K "Chart" "none", clmB K "Chart" "every", clmB K "Chart" "of", PySem.W.selfFirst K (ga K "DaySet"), eqO (PySem.W.findIn K (.ref (ga K "DaySet")) "__ne__") (some (some (.builtin "object.__ne__"))), decide (PySem.W.mroIn K (ga K "DaySet") (.type "object") = some true), eqO (PySem.W.findIn K (.ref (ga K "DaySet")) "__class__") (some (some (.builtin "object.__class__"))), eqO (PySem.W.specialIn K (.builtin "object.__class__") "__get__") (some (some (.builtin "getset_descriptor.__get__"))), decide (PySem.W.takesIn K (.builtin "object.__class__") = some true), decide (PySem.W.kitOne K (.ref (ga K "DaySet")) (.ref (ga K "DaySet")) = some true), decide (PySem.W.subIn K (.type "int") (.ref (ga K "DaySet")) = some false), eqO (PySem.W.findIn K (.ref (ga K "DaySet")) (dunderR "rshift")) (some none), eqO (PySem.W.findIn K (.ref (ga K "DaySet")) (dunderR "lshift")) (some none), eqO (PySem.W.findIn K (.type "int") (PySem.dunder "rshift")) (some (some (.builtin "int.__rshift__"))), eqO (PySem.W.findIn K (.type "int") (PySem.dunder "lshift")) (some (some (.builtin "int.__lshift__"))), eqO (PySem.W.findIn K (.type "int") (dunderR "rshift")) (some (some (.builtin "int.__rrshift__"))), eqO (PySem.W.findIn K (.type "int") (dunderR "lshift")) (some (some (.builtin "int.__rlshift__"))), PySem.W.selfFirst K (ga K "Chart"), eqO (PySem.W.findIn K (.ref (ga K "Chart")) "__ne__") (some (some (.builtin "object.__ne__"))), decide (PySem.W.mroIn K (ga K "Chart") (.type "object") = some true), eqO (PySem.W.findIn K (.ref (ga K "Chart")) "__class__") (some (some (.builtin "object.__class__"))), decide (PySem.W.kitOne K (.ref (ga K "Chart")) (.ref (ga K "Chart")) = some true), tabNe K "_law_days" "_law_chart_has"]
def fnL : List DefE := [dG "divisor_of" s_divisor_of, dG "multiple_of" s_multiple_of, dG "root_of" s_root_of, dG "turned_row" s_turned_row, dG "bare_form" s_bare_form, dG "least_form" s_least_form, dG "is_row" s_is_row, dG "is_count" s_is_count, dG "is_number" s_is_number, dG "merged" s_merged, dG "_law_pen" s__law_pen, dG "_law_draw" s__law_draw, dG "_law_pick" s__law_pick, dG "_law_days" s__law_days, dG "_law_signs" s__law_signs, dG "_law_form" s__law_form, dG "_law_chart" s__law_chart, dG "_law_chart_has" s__law_chart_has, dG "_law_chart_made" s__law_chart_made, dG "_law_forms" s__law_forms, dM "DaySet" "__init__" "DaySet.__init__" s_DaySet___init__, dM "Chart" "__init__" "Chart.__init__" s_Chart___init__, dM "DaySet" "sign" "DaySet.sign" s_DaySet_sign, dM "DaySet" "days_in" "DaySet.days_in" s_DaySet_days_in, dM "DaySet" "merged" "DaySet.merged" s_DaySet_merged, dM "DaySet" "__or__" "DaySet.__or__" s_DaySet___or__, dM "DaySet" "__and__" "DaySet.__and__" s_DaySet___and__, dM "DaySet" "__sub__" "DaySet.__sub__" s_DaySet___sub__, dM "DaySet" "__xor__" "DaySet.__xor__" s_DaySet___xor__, dM "DaySet" "__invert__" "DaySet.__invert__" s_DaySet___invert__, dM "DaySet" "__str__" "DaySet.__str__" s_DaySet___str__, dM "DaySet" "__bool__" "DaySet.__bool__" s_DaySet___bool__, dM "DaySet" "__contains__" "DaySet.__contains__" s_DaySet___contains__, dM "DaySet" "__eq__" "DaySet.__eq__" s_DaySet___eq__, dM "Chart" "crossed" "Chart.crossed" s_Chart_crossed, dM "Chart" "__or__" "Chart.__or__" s_Chart___or__, dM "Chart" "__and__" "Chart.__and__" s_Chart___and__, dM "Chart" "__sub__" "Chart.__sub__" s_Chart___sub__, dM "Chart" "__xor__" "Chart.__xor__" s_Chart___xor__, dM "Chart" "__invert__" "Chart.__invert__" s_Chart___invert__, dM "Chart" "__eq__" "Chart.__eq__" s_Chart___eq__, dM "Chart" "__bool__" "Chart.__bool__" s_Chart___bool__, dM "Chart" "rows" "Chart.rows" s_Chart_rows, dC "DaySet" "none" "DaySet.none" s_DaySet_none, dC "DaySet" "every" "DaySet.every" s_DaySet_every, dC "DaySet" "read" "DaySet.read" s_DaySet_read, dC "Chart" "none" "Chart.none" s_Chart_none, dC "Chart" "every" "Chart.every" s_Chart_every, dC "Chart" "of" "Chart.of" s_Chart_of, dG "law" s_law]
abbrev moL : PySem.W.Frag → Bool := moF faL exL
abbrev RL : PySem.W.OpenRow := PySem.W.OpenLaw.row PySem.Challenge.rw_onewaydays_k51_rows_of_charts
def asL : List Addr := ([3, 2, 6, 4, 21, 31, 53, 60, 67, 74, 81, 88, 95, 102, 109, 114, 403, 414, 419, 426, 433, 438, 443, 448, 455, 460, 465, 631, 642, 649, 656, 663, 668, 675, 682, 687, 694, 699, 704, 0, 20, 30, 52, 59, 66, 73, 80, 87, 94, 101, 108, 113, 402, 413, 418, 425, 432, 437, 442, 447, 454, 459, 464, 630, 641, 648, 655, 662, 667, 674, 681, 686, 693, 698, 703, 15, 16, 17, 18, 19, 29, 32, 50, 51, 56, 57, 58, 61, 62, 63, 64, 65, 68, 69, 70, 71, 72, 75, 76, 77] : List Addr) ++ ([78, 79, 82, 83, 84, 85, 86, 89, 90, 91, 92, 93, 96, 97, 98, 99, 100, 103, 104, 105, 106, 107, 110, 111, 112, 128, 137, 147, 155, 165, 175, 185, 195, 203, 208, 213, 220, 227, 234, 241, 248, 255, 262, 269, 276, 283, 290, 297, 304, 311, 318, 325, 332, 339, 346, 353, 360, 367, 372, 379, 386, 393, 400, 401, 404, 405, 408, 409, 410, 411, 412, 415, 416, 417, 420, 421, 422, 423, 424, 427, 428, 429, 430, 431, 434, 435, 436, 439, 440, 441, 444, 445, 446, 449, 450, 451, 452, 453, 456, 457] : List Addr) ++ ([458, 461, 462, 463, 479, 488, 498, 508, 514, 521, 526, 531, 536, 541, 546, 553, 560, 567, 574, 581, 586, 593, 600, 607, 614, 621, 628, 629, 632, 633, 636, 637, 638, 639, 640, 643, 644, 645, 646, 647, 650, 651, 652, 653, 654, 657, 658, 659, 660, 661, 664, 665, 666, 669, 670, 671, 672, 673, 676, 677, 678, 679, 680, 683, 684, 685, 688, 689, 690, 691, 692, 695, 696, 697, 700, 701, 702, 49, 38, 127, 135, 136, 145, 146, 153, 154, 163, 164, 173, 174, 183, 184, 193, 194, 202, 207, 212, 219, 226, 233] : List Addr) ++ ([240, 247, 254, 261, 268, 275, 282, 289, 296, 303, 310, 317, 324, 331, 338, 345, 352, 359, 366, 371, 378, 385, 392, 399, 478, 486, 487, 496, 497, 506, 507, 513, 520, 525, 530, 535, 540, 545, 552, 559, 566, 573, 580, 585, 592, 599, 606, 613, 620, 627, 44, 45, 46, 47, 48, 122, 123, 124, 125, 126, 134, 138, 144, 148, 152, 156, 162, 166, 172, 176, 182, 186, 192, 196, 197, 198, 199, 200, 201, 204, 205, 206, 209, 210, 211, 214, 215, 216, 217, 218, 221, 222, 223, 224, 225, 228, 229, 230, 231, 232] : List Addr) ++ ([235, 236, 237, 238, 239, 242, 243, 244, 245, 246, 249, 250, 251, 252, 253, 256, 257, 258, 259, 260, 263, 264, 265, 266, 267, 270, 271, 272, 273, 274, 277, 278, 279, 280, 281, 284, 285, 286, 287, 288, 291, 292, 293, 294, 295, 298, 299, 300, 301, 302, 305, 306, 307, 308, 309, 312, 313, 314, 315, 316, 319, 320, 321, 322, 323, 326, 327, 328, 329, 330, 333, 334, 335, 336, 337, 340, 341, 342, 343, 344, 347, 348, 349, 350, 351, 354, 355, 356, 357, 358, 361, 362, 363, 364, 365, 368, 369, 370, 373, 374] : List Addr) ++ ([375, 376, 377, 380, 381, 382, 383, 384, 387, 388, 389, 390, 391, 394, 395, 396, 397, 398, 473, 474, 475, 476, 477, 485, 489, 495, 499, 505, 509, 510, 511, 512, 515, 516, 517, 518, 519, 522, 523, 524, 527, 528, 529, 532, 533, 534, 537, 538, 539, 542, 543, 544, 547, 548, 549, 550, 551, 554, 555, 556, 557, 558, 561, 562, 563, 564, 565, 568, 569, 570, 571, 572, 575, 576, 577, 578, 579, 582, 583, 584, 587, 588, 589, 590, 591, 594, 595, 596, 597, 598, 601, 602, 603, 604, 605, 608, 609, 610, 611, 612] : List Addr) ++ ([615, 616, 617, 618, 619, 622, 623, 624, 625, 626, 129, 130, 131, 132, 133, 139, 140, 141, 142, 143, 149, 150, 151, 157, 158, 159, 160, 161, 167, 168, 169, 170, 171, 177, 178, 179, 180, 181, 187, 188, 189, 190, 191, 480, 481, 482, 483, 484, 490, 491, 492, 493, 494, 500, 501, 502, 503, 504] : List Addr)
def tsL : List Str := ["_law_days", "_law_chart_has"]
abbrev hkL : PySem.W.Hook := hookL asL moL fnL tsL
def obL (s : PySem.W.SharedT) : AlT := obsLG asL moL fnL tsL (HandSHeadRun.getT s)
theorem obL_eq (s : PySem.W.SharedT) : obL s = hkL.obs s.abs := obsLG_eq (HandSHeadRun.getT_eq s)
def namesL : List Str := (["_wall", "__name__", "OneWayError", "BadDays", "DIGITS", "is_count", "is_number", "divisor_of", "multiple_of", "root_of", "turned_row", "least_form", "bare_form", "is_row", "DaySet", "many_in", "set_of", "first_of_rests", "firsts_of", "begun_sums"] : List Str) ++ (["whole_rests", "sum_of", "star_of", "least_sums", "merged", "Chart", "_law_pen", "_law_draw", "_law_pick", "_law_days", "_law_signs", "_law_form", "_law_chart", "_law_chart_has", "_law_chart_made", "_law_forms"] : List Str)
theorem run1L (w : World) : HandSHeadRun.RunL RL 12000 w := by
  intro os
  kernel_rfl
theorem run2L (w : World) : HandSHeadRun.RunS RL (PySem.W.view RL.prog [40]) 12000 namesL w := by
  intro os
  kernel_rfl
theorem run3L (w : World) : HandSHeadRun.RunO RL hkL obL 12000 w := by
  intro os
  kernel_rfl
theorem runL (w : World) : HandSHeadRun.RunEq RL (PySem.W.view RL.prog [40]) hkL obL 12000 namesL w := HandSHeadRun.runEq3 (run1L w) (run2L w) (run3L w)
section
variable {K : PySem.W.Frag} {h : Heap} {mg : Str → Option Value}
theorem h_F_divisor_of (X : K.In h) (G : h.Ns mainGlobals mg) (c : obsE moL fnL K = valE fnL) : DefOf K mg "divisor_of" s_divisor_of P_divisor_of := defOf_ X G (moF_fact (saysE_mo c) 0) (saysE_def c 0) (fun _ _ _ _ _ _ us hl => match us, hl with | [_, _], _ => rfl)
theorem h_F_multiple_of (X : K.In h) (G : h.Ns mainGlobals mg) (c : obsE moL fnL K = valE fnL) : DefOf K mg "multiple_of" s_multiple_of P_multiple_of := defOf_ X G (moF_fact (saysE_mo c) 1) (saysE_def c 1) (fun _ _ _ _ _ _ us hl => match us, hl with | [_, _], _ => rfl)
theorem h_F_root_of (X : K.In h) (G : h.Ns mainGlobals mg) (c : obsE moL fnL K = valE fnL) : DefOf K mg "root_of" s_root_of P_root_of := defOf_ X G (moF_fact (saysE_mo c) 2) (saysE_def c 2) (fun _ _ _ _ _ _ us hl => match us, hl with | [_], _ => rfl)
theorem h_F_turned_row (X : K.In h) (G : h.Ns mainGlobals mg) (c : obsE moL fnL K = valE fnL) : DefOf K mg "turned_row" s_turned_row P_turned_row := defOf_ X G (moF_fact (saysE_mo c) 3) (saysE_def c 3) (fun _ _ _ _ _ _ us hl => match us, hl with | [_, _], _ => rfl)
theorem h_F_bare_form (X : K.In h) (G : h.Ns mainGlobals mg) (c : obsE moL fnL K = valE fnL) : DefOf K mg "bare_form" s_bare_form P_bare_form := defOf_ X G (moF_fact (saysE_mo c) 4) (saysE_def c 4) (fun _ _ _ _ _ _ us hl => match us, hl with | [_, _, _], _ => rfl)
theorem h_F_least_form (X : K.In h) (G : h.Ns mainGlobals mg) (c : obsE moL fnL K = valE fnL) : DefOf K mg "least_form" s_least_form P_least_form := defOf_ X G (moF_fact (saysE_mo c) 5) (saysE_def c 5) (fun _ _ _ _ _ _ us hl => match us, hl with | [_, _, _, _], _ => rfl)
theorem h_F_is_row (X : K.In h) (G : h.Ns mainGlobals mg) (c : obsE moL fnL K = valE fnL) : DefOf K mg "is_row" s_is_row P_is_row := defOf_ X G (moF_fact (saysE_mo c) 6) (saysE_def c 6) (fun _ _ _ _ _ _ us hl => match us, hl with | [_], _ => rfl)
theorem h_F_is_count (X : K.In h) (G : h.Ns mainGlobals mg) (c : obsE moL fnL K = valE fnL) : DefOf K mg "is_count" s_is_count P_is_count := defOf_ X G (moF_fact (saysE_mo c) 7) (saysE_def c 7) (fun _ _ _ _ _ _ us hl => match us, hl with | [_], _ => rfl)
theorem h_F_is_number (X : K.In h) (G : h.Ns mainGlobals mg) (c : obsE moL fnL K = valE fnL) : DefOf K mg "is_number" s_is_number P_is_number := defOf_ X G (moF_fact (saysE_mo c) 8) (saysE_def c 8) (fun _ _ _ _ _ _ us hl => match us, hl with | [_], _ => rfl)
theorem h_F_merged (X : K.In h) (G : h.Ns mainGlobals mg) (c : obsE moL fnL K = valE fnL) : DefOf K mg "merged" s_merged P_merged := defOf_ X G (moF_fact (saysE_mo c) 9) (saysE_def c 9) (fun _ _ _ _ _ _ us hl => match us, hl with | [_], _ => rfl)
theorem h_F__law_pen (X : K.In h) (G : h.Ns mainGlobals mg) (c : obsE moL fnL K = valE fnL) : DefOf K mg "_law_pen" s__law_pen P__law_pen := defOf_ X G (moF_fact (saysE_mo c) 10) (saysE_def c 10) (fun _ _ _ _ _ _ us hl => match us, hl with | [_], _ => rfl)
theorem h_F__law_draw (X : K.In h) (G : h.Ns mainGlobals mg) (c : obsE moL fnL K = valE fnL) : DefOf K mg "_law_draw" s__law_draw P__law_draw := defOf_ X G (moF_fact (saysE_mo c) 11) (saysE_def c 11) (fun _ _ _ _ _ _ us hl => match us, hl with | [_, _], _ => rfl)
theorem h_F__law_pick (X : K.In h) (G : h.Ns mainGlobals mg) (c : obsE moL fnL K = valE fnL) : DefOf K mg "_law_pick" s__law_pick P__law_pick := defOf_ X G (moF_fact (saysE_mo c) 12) (saysE_def c 12) (fun _ _ _ _ _ _ us hl => match us, hl with | [_, _], _ => rfl)
theorem h_F__law_days (X : K.In h) (G : h.Ns mainGlobals mg) (c : obsE moL fnL K = valE fnL) : DefOf K mg "_law_days" s__law_days P__law_days := defOf_ X G (moF_fact (saysE_mo c) 13) (saysE_def c 13) (fun _ _ _ _ _ _ us hl => match us, hl with | [_], _ => rfl)
theorem h_F__law_signs (X : K.In h) (G : h.Ns mainGlobals mg) (c : obsE moL fnL K = valE fnL) : DefOf K mg "_law_signs" s__law_signs P__law_signs := defOf_ X G (moF_fact (saysE_mo c) 14) (saysE_def c 14) (fun _ _ _ _ _ _ us hl => match us, hl with | [_, _, _], _ => rfl)
theorem h_F__law_form (X : K.In h) (G : h.Ns mainGlobals mg) (c : obsE moL fnL K = valE fnL) : DefOf K mg "_law_form" s__law_form P__law_form := defOf_ X G (moF_fact (saysE_mo c) 15) (saysE_def c 15) (fun _ _ _ _ _ _ us hl => match us, hl with | [_, _], _ => rfl)
theorem h_F__law_chart (X : K.In h) (G : h.Ns mainGlobals mg) (c : obsE moL fnL K = valE fnL) : DefOf K mg "_law_chart" s__law_chart P__law_chart := defOf_ X G (moF_fact (saysE_mo c) 16) (saysE_def c 16) (fun _ _ _ _ _ _ us hl => match us, hl with | [_, _], _ => rfl)
theorem h_F__law_chart_has (X : K.In h) (G : h.Ns mainGlobals mg) (c : obsE moL fnL K = valE fnL) : DefOf K mg "_law_chart_has" s__law_chart_has P__law_chart_has := defOf_ X G (moF_fact (saysE_mo c) 17) (saysE_def c 17) (fun _ _ _ _ _ _ us hl => match us, hl with | [_], _ => rfl)
theorem h_F__law_chart_made (X : K.In h) (G : h.Ns mainGlobals mg) (c : obsE moL fnL K = valE fnL) : DefOf K mg "_law_chart_made" s__law_chart_made P__law_chart_made := defOf_ X G (moF_fact (saysE_mo c) 18) (saysE_def c 18) (fun _ _ _ _ _ _ us hl => match us, hl with | [_], _ => rfl)
theorem h_F__law_forms (X : K.In h) (G : h.Ns mainGlobals mg) (c : obsE moL fnL K = valE fnL) : DefOf K mg "_law_forms" s__law_forms P__law_forms := defOf_ X G (moF_fact (saysE_mo c) 19) (saysE_def c 19) (fun _ _ _ _ _ _ us hl => match us, hl with | [_], _ => rfl)
theorem h_F_DaySet___init__ (X : K.In h) (G : h.Ns mainGlobals mg) (c : obsE moL fnL K = valE fnL) : MakOf K (ga K "DaySet") "DaySet.__init__" s_DaySet___init__ P_DaySet___init__ := makOf_ (moF_fact (saysE_mo c) 20) (saysE_def c 20) (fun _ _ _ _ _ _ us hl => match us, hl with | [_, _, _, _, _], _ => rfl)
theorem h_F_Chart___init__ (X : K.In h) (G : h.Ns mainGlobals mg) (c : obsE moL fnL K = valE fnL) : MakOf K (ga K "Chart") "Chart.__init__" s_Chart___init__ P_Chart___init__ := makOf_ (moF_fact (saysE_mo c) 21) (saysE_def c 21) (fun _ _ _ _ _ _ us hl => match us, hl with | [_, _], _ => rfl)
theorem h_F_DaySet_sign (X : K.In h) (G : h.Ns mainGlobals mg) (c : obsE moL fnL K = valE fnL) : MetOf K (ga K "DaySet") "sign" "DaySet.sign" s_DaySet_sign P_DaySet_sign := metOf_ (moF_fact (saysE_mo c) 22) (saysE_def c 22) (fun _ _ _ _ _ _ us hl => match us, hl with | [_, _], _ => rfl)
theorem h_F_DaySet_days_in (X : K.In h) (G : h.Ns mainGlobals mg) (c : obsE moL fnL K = valE fnL) : MetOf K (ga K "DaySet") "days_in" "DaySet.days_in" s_DaySet_days_in P_DaySet_days_in := metOf_ (moF_fact (saysE_mo c) 23) (saysE_def c 23) (fun _ _ _ _ _ _ us hl => match us, hl with | [_, _, _], _ => rfl)
theorem h_F_DaySet_merged (X : K.In h) (G : h.Ns mainGlobals mg) (c : obsE moL fnL K = valE fnL) : MetOf K (ga K "DaySet") "merged" "DaySet.merged" s_DaySet_merged P_DaySet_merged := metOf_ (moF_fact (saysE_mo c) 24) (saysE_def c 24) (fun _ _ _ _ _ _ us hl => match us, hl with | [_, _, _], _ => rfl)
theorem h_F_DaySet___or__ (X : K.In h) (G : h.Ns mainGlobals mg) (c : obsE moL fnL K = valE fnL) : MetOf K (ga K "DaySet") "__or__" "DaySet.__or__" s_DaySet___or__ P_DaySet___or__ := metOf_ (moF_fact (saysE_mo c) 25) (saysE_def c 25) (fun _ _ _ _ _ _ us hl => match us, hl with | [_, _], _ => rfl)
theorem h_F_DaySet___and__ (X : K.In h) (G : h.Ns mainGlobals mg) (c : obsE moL fnL K = valE fnL) : MetOf K (ga K "DaySet") "__and__" "DaySet.__and__" s_DaySet___and__ P_DaySet___and__ := metOf_ (moF_fact (saysE_mo c) 26) (saysE_def c 26) (fun _ _ _ _ _ _ us hl => match us, hl with | [_, _], _ => rfl)
theorem h_F_DaySet___sub__ (X : K.In h) (G : h.Ns mainGlobals mg) (c : obsE moL fnL K = valE fnL) : MetOf K (ga K "DaySet") "__sub__" "DaySet.__sub__" s_DaySet___sub__ P_DaySet___sub__ := metOf_ (moF_fact (saysE_mo c) 27) (saysE_def c 27) (fun _ _ _ _ _ _ us hl => match us, hl with | [_, _], _ => rfl)
theorem h_F_DaySet___xor__ (X : K.In h) (G : h.Ns mainGlobals mg) (c : obsE moL fnL K = valE fnL) : MetOf K (ga K "DaySet") "__xor__" "DaySet.__xor__" s_DaySet___xor__ P_DaySet___xor__ := metOf_ (moF_fact (saysE_mo c) 28) (saysE_def c 28) (fun _ _ _ _ _ _ us hl => match us, hl with | [_, _], _ => rfl)
theorem h_F_DaySet___invert__ (X : K.In h) (G : h.Ns mainGlobals mg) (c : obsE moL fnL K = valE fnL) : MetOf K (ga K "DaySet") "__invert__" "DaySet.__invert__" s_DaySet___invert__ P_DaySet___invert__ := metOf_ (moF_fact (saysE_mo c) 29) (saysE_def c 29) (fun _ _ _ _ _ _ us hl => match us, hl with | [_], _ => rfl)
theorem h_F_DaySet___str__ (X : K.In h) (G : h.Ns mainGlobals mg) (c : obsE moL fnL K = valE fnL) : MetOf K (ga K "DaySet") "__str__" "DaySet.__str__" s_DaySet___str__ P_DaySet___str__ := metOf_ (moF_fact (saysE_mo c) 30) (saysE_def c 30) (fun _ _ _ _ _ _ us hl => match us, hl with | [_], _ => rfl)
theorem h_F_DaySet___bool__ (X : K.In h) (G : h.Ns mainGlobals mg) (c : obsE moL fnL K = valE fnL) : MetOf K (ga K "DaySet") "__bool__" "DaySet.__bool__" s_DaySet___bool__ P_DaySet___bool__ := metOf_ (moF_fact (saysE_mo c) 31) (saysE_def c 31) (fun _ _ _ _ _ _ us hl => match us, hl with | [_], _ => rfl)
theorem h_F_DaySet___contains__ (X : K.In h) (G : h.Ns mainGlobals mg) (c : obsE moL fnL K = valE fnL) : MetOf K (ga K "DaySet") "__contains__" "DaySet.__contains__" s_DaySet___contains__ P_DaySet___contains__ := metOf_ (moF_fact (saysE_mo c) 32) (saysE_def c 32) (fun _ _ _ _ _ _ us hl => match us, hl with | [_, _], _ => rfl)
theorem h_F_DaySet___eq__ (X : K.In h) (G : h.Ns mainGlobals mg) (c : obsE moL fnL K = valE fnL) : MetOf K (ga K "DaySet") "__eq__" "DaySet.__eq__" s_DaySet___eq__ P_DaySet___eq__ := metOf_ (moF_fact (saysE_mo c) 33) (saysE_def c 33) (fun _ _ _ _ _ _ us hl => match us, hl with | [_, _], _ => rfl)
theorem h_F_Chart_crossed (X : K.In h) (G : h.Ns mainGlobals mg) (c : obsE moL fnL K = valE fnL) : MetOf K (ga K "Chart") "crossed" "Chart.crossed" s_Chart_crossed P_Chart_crossed := metOf_ (moF_fact (saysE_mo c) 34) (saysE_def c 34) (fun _ _ _ _ _ _ us hl => match us, hl with | [_, _], _ => rfl)
theorem h_F_Chart___or__ (X : K.In h) (G : h.Ns mainGlobals mg) (c : obsE moL fnL K = valE fnL) : MetOf K (ga K "Chart") "__or__" "Chart.__or__" s_Chart___or__ P_Chart___or__ := metOf_ (moF_fact (saysE_mo c) 35) (saysE_def c 35) (fun _ _ _ _ _ _ us hl => match us, hl with | [_, _], _ => rfl)
theorem h_F_Chart___and__ (X : K.In h) (G : h.Ns mainGlobals mg) (c : obsE moL fnL K = valE fnL) : MetOf K (ga K "Chart") "__and__" "Chart.__and__" s_Chart___and__ P_Chart___and__ := metOf_ (moF_fact (saysE_mo c) 36) (saysE_def c 36) (fun _ _ _ _ _ _ us hl => match us, hl with | [_, _], _ => rfl)
theorem h_F_Chart___sub__ (X : K.In h) (G : h.Ns mainGlobals mg) (c : obsE moL fnL K = valE fnL) : MetOf K (ga K "Chart") "__sub__" "Chart.__sub__" s_Chart___sub__ P_Chart___sub__ := metOf_ (moF_fact (saysE_mo c) 37) (saysE_def c 37) (fun _ _ _ _ _ _ us hl => match us, hl with | [_, _], _ => rfl)
theorem h_F_Chart___xor__ (X : K.In h) (G : h.Ns mainGlobals mg) (c : obsE moL fnL K = valE fnL) : MetOf K (ga K "Chart") "__xor__" "Chart.__xor__" s_Chart___xor__ P_Chart___xor__ := metOf_ (moF_fact (saysE_mo c) 38) (saysE_def c 38) (fun _ _ _ _ _ _ us hl => match us, hl with | [_, _], _ => rfl)
theorem h_F_Chart___invert__ (X : K.In h) (G : h.Ns mainGlobals mg) (c : obsE moL fnL K = valE fnL) : MetOf K (ga K "Chart") "__invert__" "Chart.__invert__" s_Chart___invert__ P_Chart___invert__ := metOf_ (moF_fact (saysE_mo c) 39) (saysE_def c 39) (fun _ _ _ _ _ _ us hl => match us, hl with | [_], _ => rfl)
theorem h_F_Chart___eq__ (X : K.In h) (G : h.Ns mainGlobals mg) (c : obsE moL fnL K = valE fnL) : MetOf K (ga K "Chart") "__eq__" "Chart.__eq__" s_Chart___eq__ P_Chart___eq__ := metOf_ (moF_fact (saysE_mo c) 40) (saysE_def c 40) (fun _ _ _ _ _ _ us hl => match us, hl with | [_, _], _ => rfl)
theorem h_F_Chart___bool__ (X : K.In h) (G : h.Ns mainGlobals mg) (c : obsE moL fnL K = valE fnL) : MetOf K (ga K "Chart") "__bool__" "Chart.__bool__" s_Chart___bool__ P_Chart___bool__ := metOf_ (moF_fact (saysE_mo c) 41) (saysE_def c 41) (fun _ _ _ _ _ _ us hl => match us, hl with | [_], _ => rfl)
theorem h_F_Chart_rows (X : K.In h) (G : h.Ns mainGlobals mg) (c : obsE moL fnL K = valE fnL) : MetOf K (ga K "Chart") "rows" "Chart.rows" s_Chart_rows P_Chart_rows := metOf_ (moF_fact (saysE_mo c) 42) (saysE_def c 42) (fun _ _ _ _ _ _ us hl => match us, hl with | [_], _ => rfl)
theorem h_F_DaySet_none (X : K.In h) (G : h.Ns mainGlobals mg) (c : obsE moL fnL K = valE fnL) : ClmOf K (ga K "DaySet") "none" "DaySet.none" s_DaySet_none P_DaySet_none := clmOf_ (moF_ex (saysE_mo c) 0) (moF_ex (saysE_mo c) 1) (saysE_def c 43) (fun _ _ _ _ _ _ us hl => match us, hl with | [_], _ => rfl)
theorem h_F_DaySet_every (X : K.In h) (G : h.Ns mainGlobals mg) (c : obsE moL fnL K = valE fnL) : ClmOf K (ga K "DaySet") "every" "DaySet.every" s_DaySet_every P_DaySet_every := clmOf_ (moF_ex (saysE_mo c) 0) (moF_ex (saysE_mo c) 2) (saysE_def c 44) (fun _ _ _ _ _ _ us hl => match us, hl with | [_], _ => rfl)
theorem h_F_DaySet_read (X : K.In h) (G : h.Ns mainGlobals mg) (c : obsE moL fnL K = valE fnL) : ClmOf K (ga K "DaySet") "read" "DaySet.read" s_DaySet_read P_DaySet_read := clmOf_ (moF_ex (saysE_mo c) 0) (moF_ex (saysE_mo c) 3) (saysE_def c 45) (fun _ _ _ _ _ _ us hl => match us, hl with | [_, _], _ => rfl)
theorem h_F_Chart_none (X : K.In h) (G : h.Ns mainGlobals mg) (c : obsE moL fnL K = valE fnL) : ClmOf K (ga K "Chart") "none" "Chart.none" s_Chart_none P_Chart_none := clmOf_ (moF_ex (saysE_mo c) 4) (moF_ex (saysE_mo c) 5) (saysE_def c 46) (fun _ _ _ _ _ _ us hl => match us, hl with | [_], _ => rfl)
theorem h_F_Chart_every (X : K.In h) (G : h.Ns mainGlobals mg) (c : obsE moL fnL K = valE fnL) : ClmOf K (ga K "Chart") "every" "Chart.every" s_Chart_every P_Chart_every := clmOf_ (moF_ex (saysE_mo c) 4) (moF_ex (saysE_mo c) 6) (saysE_def c 47) (fun _ _ _ _ _ _ us hl => match us, hl with | [_], _ => rfl)
theorem h_F_Chart_of (X : K.In h) (G : h.Ns mainGlobals mg) (c : obsE moL fnL K = valE fnL) : ClmOf K (ga K "Chart") "of" "Chart.of" s_Chart_of P_Chart_of := clmOf_ (moF_ex (saysE_mo c) 4) (moF_ex (saysE_mo c) 7) (saysE_def c 48) (fun _ _ _ _ _ _ us hl => match us, hl with | [_, _, _], _ => rfl)
theorem h_G_DIGITS (X : K.In h) (G : h.Ns mainGlobals mg) (c : obsE moL fnL K = valE fnL) : ∃ u, mg "DIGITS" = some u ∧ L2.RelV (.str "0123456789") u := strG X G (moF_fact (saysE_mo c) 63)
theorem h_T (X : K.In h) (G : h.Ns mainGlobals mg) (c : obsE moL fnL K = valE fnL) : Txt K mg := { b_len := free_ok X G (moF_fact (saysE_mo c) 43), b_abs := free_ok X G (moF_fact (saysE_mo c) 44), b_int := free_ok X G (moF_fact (saysE_mo c) 45), b_str := free_ok X G (moF_fact (saysE_mo c) 46), b_min := free_ok X G (moF_fact (saysE_mo c) 47), b_max := free_ok X G (moF_fact (saysE_mo c) 48), b_range := free_ok X G (moF_fact (saysE_mo c) 49), b_all := free_ok X G (moF_fact (saysE_mo c) 50), b_any := free_ok X G (moF_fact (saysE_mo c) 51), b_isinstance := free_ok X G (moF_fact (saysE_mo c) 52), b_bool := free_ok X G (moF_fact (saysE_mo c) 53), b_list := free_ok X G (moF_fact (saysE_mo c) 54), b_enumerate := free_ok X G (moF_fact (saysE_mo c) 55), b_sorted := free_ok X G (moF_fact (saysE_mo c) 56), b_dict := free_ok X G (moF_fact (saysE_mo c) 57), b_repr := free_ok X G (moF_fact (saysE_mo c) 58), b_tuple := free_ok X G (moF_fact (saysE_mo c) 59), b_zip := free_ok X G (moF_fact (saysE_mo c) 60), b_sum := free_ok X G (moF_fact (saysE_mo c) 61), b_reversed := free_ok X G (moF_fact (saysE_mo c) 62) }
theorem h_D (X : K.In h) (G : h.Ns mainGlobals mg) (c : obsE moL fnL K = valE fnL) : DSC K mg (ga K "DaySet") := { cl := cls_ok (moF_fact (saysE_mo c) 64), c := glo_ok X G (moF_fact (saysE_mo c) 65), g := ⟨_, glo_ok X G (moF_fact (saysE_mo c) 65), rfl⟩, n_left := noat_ok (moF_fact (saysE_mo c) 66), n_low := noat_ok (moF_fact (saysE_mo c) 67), n_middle := noat_ok (moF_fact (saysE_mo c) 68), n_right := noat_ok (moF_fact (saysE_mo c) 69), n_high := noat_ok (moF_fact (saysE_mo c) 70), sf := (moF_ex (saysE_mo c) 8), ne := eqO_ok (moF_ex (saysE_mo c) 9), ob := of_decide_eq_true (moF_ex (saysE_mo c) 10), ha := eqO_ok (moF_ex (saysE_mo c) 11), hn := eqO_ok (moF_ex (saysE_mo c) 12), htk := of_decide_eq_true (moF_ex (saysE_mo c) 13), isi := of_decide_eq_true (moF_ex (saysE_mo c) 14), si := of_decide_eq_true (moF_ex (saysE_mo c) 15), r_rshift := eqO_ok (moF_ex (saysE_mo c) 16), r_lshift := eqO_ok (moF_ex (saysE_mo c) 17), i_rshift := eqO_ok (moF_ex (saysE_mo c) 18), i_lshift := eqO_ok (moF_ex (saysE_mo c) 19), i_rrshift := eqO_ok (moF_ex (saysE_mo c) 20), i_rlshift := eqO_ok (moF_ex (saysE_mo c) 21) }
theorem h_DC (X : K.In h) (G : h.Ns mainGlobals mg) (c : obsE moL fnL K = valE fnL) : DCC K mg (ga K "Chart") := { cl := cls_ok (moF_fact (saysE_mo c) 71), c := glo_ok X G (moF_fact (saysE_mo c) 72), g := ⟨_, glo_ok X G (moF_fact (saysE_mo c) 72), rfl⟩, n_pairs := noat_ok (moF_fact (saysE_mo c) 73), sf := (moF_ex (saysE_mo c) 22), ne := eqO_ok (moF_ex (saysE_mo c) 23), ob := of_decide_eq_true (moF_ex (saysE_mo c) 24), ha := eqO_ok (moF_ex (saysE_mo c) 25), hn := eqO_ok (moF_ex (saysE_mo c) 12), htk := of_decide_eq_true (moF_ex (saysE_mo c) 13), isi := of_decide_eq_true (moF_ex (saysE_mo c) 26) }
theorem h_ST (X : K.In h) (G : h.Ns mainGlobals mg) (c : obsE moL fnL K = valE fnL) : SetT mg := { b_set := free_ok X G (moF_fact (saysE_mo c) 74) }
end
theorem factsL {P : Program} {w : World} {K : PySem.W.Frag} {h : Heap} {mg : Str → Option Value} {f : Addr} (X : K.In h) (G : h.Ns mainGlobals mg) (hfa : mg ("law" : Str) = some (.ref f)) (c : obsE moL fnL K = valE fnL) {t_0 : Addr × Addr} (qt_0 : TabO K h "_law_days" t_0) {t_1 : Addr × Addr} (qt_1 : TabO K h "_law_chart_has" t_1) :
    ∃ fd : FuncData, (∀ (s : Shared) (v : Value), BindsTo s fd ⟨[v], []⟩ [("_law_script", v)]) ∧ ∀ base : Heap, K.In base → base.Ns mainGlobals mg → (∀ p ∈ ([t_0, t_1] : List (Addr × Addr)), LamX.TabB base mg p.1 p.2) → FnG P w K mg base 16 f fd ["_law_script"] (sp_law K t_0.2 t_1.2) := by
  obtain ⟨fd, Fl, df, _⟩ := saysE_def c 49 (d := dG "law" s_law) rfl
  have e := hfa.symm.trans (glo_ok X G (moF_fact (saysE_mo c) 75 (f := .glo "law") rfl))
  cases e
  have b : ∀ (s : Shared) (v : Value), BindsTo s fd ⟨[v], []⟩ [("_law_script", v)] := by
    obtain ⟨oc, od, dV, kV, doc, pm, an, cdv, ct, osl, rfl, _, _⟩ := Fl.ex
    have e2 : dV = .none := df
    subst e2
    exact fun s v => .of_eq rfl
  refine ⟨fd, b, fun base hb hG hTB => ?_⟩
  have TB_0 : LamX.TabB base mg t_0.1 t_0.2 := hTB t_0 (by simp)
  have TB_1 : LamX.TabB base mg t_1.1 t_1.2 := hTB t_1 (by simp)
  have F_divisor_of := h_F_divisor_of X G c
  have F_multiple_of := h_F_multiple_of X G c
  have F_root_of := h_F_root_of X G c
  have F_turned_row := h_F_turned_row X G c
  have F_bare_form := h_F_bare_form X G c
  have F_least_form := h_F_least_form X G c
  have F_is_row := h_F_is_row X G c
  have F_is_count := h_F_is_count X G c
  have F_is_number := h_F_is_number X G c
  have F_merged := h_F_merged X G c
  have F__law_pen := h_F__law_pen X G c
  have F__law_draw := h_F__law_draw X G c
  have F__law_pick := h_F__law_pick X G c
  have F__law_days := h_F__law_days X G c
  have F__law_signs := h_F__law_signs X G c
  have F__law_form := h_F__law_form X G c
  have F__law_chart := h_F__law_chart X G c
  have F__law_chart_has := h_F__law_chart_has X G c
  have F__law_chart_made := h_F__law_chart_made X G c
  have F__law_forms := h_F__law_forms X G c
  have F_DaySet___init__ := h_F_DaySet___init__ X G c
  have F_Chart___init__ := h_F_Chart___init__ X G c
  have F_DaySet_sign := h_F_DaySet_sign X G c
  have F_DaySet_days_in := h_F_DaySet_days_in X G c
  have F_DaySet_merged := h_F_DaySet_merged X G c
  have F_DaySet___or__ := h_F_DaySet___or__ X G c
  have F_DaySet___and__ := h_F_DaySet___and__ X G c
  have F_DaySet___sub__ := h_F_DaySet___sub__ X G c
  have F_DaySet___xor__ := h_F_DaySet___xor__ X G c
  have F_DaySet___invert__ := h_F_DaySet___invert__ X G c
  have F_DaySet___str__ := h_F_DaySet___str__ X G c
  have F_DaySet___bool__ := h_F_DaySet___bool__ X G c
  have F_DaySet___contains__ := h_F_DaySet___contains__ X G c
  have F_DaySet___eq__ := h_F_DaySet___eq__ X G c
  have F_Chart_crossed := h_F_Chart_crossed X G c
  have F_Chart___or__ := h_F_Chart___or__ X G c
  have F_Chart___and__ := h_F_Chart___and__ X G c
  have F_Chart___sub__ := h_F_Chart___sub__ X G c
  have F_Chart___xor__ := h_F_Chart___xor__ X G c
  have F_Chart___invert__ := h_F_Chart___invert__ X G c
  have F_Chart___eq__ := h_F_Chart___eq__ X G c
  have F_Chart___bool__ := h_F_Chart___bool__ X G c
  have F_Chart_rows := h_F_Chart_rows X G c
  have F_DaySet_none := h_F_DaySet_none X G c
  have F_DaySet_every := h_F_DaySet_every X G c
  have F_DaySet_read := h_F_DaySet_read X G c
  have F_Chart_none := h_F_Chart_none X G c
  have F_Chart_every := h_F_Chart_every X G c
  have F_Chart_of := h_F_Chart_of X G c
  have G_DIGITS := h_G_DIGITS X G c
  have T := h_T X G c
  have D := h_D X G c
  have DC := h_DC X G c
  have ST := h_ST X G c
  have NE_0_1 : t_0.2 ≠ t_1.2 := tabNe_ok (moF_ex (saysE_mo c) 27) qt_0.1 qt_1.1
  have C_divisor_of := c_divisor_of (P := P) (w := w) (base := base) T F_divisor_of
  have C_multiple_of := c_multiple_of (P := P) (w := w) (base := base) T F_multiple_of C_divisor_of
  have C_root_of := c_root_of (P := P) (w := w) (base := base) T F_root_of
  have C_turned_row := c_turned_row (P := P) (w := w) (base := base) T F_turned_row
  have C_bare_form := c_bare_form (P := P) (w := w) (base := base) T F_bare_form C_turned_row
  have C_least_form := c_least_form (P := P) (w := w) (base := base) T F_least_form C_root_of C_turned_row C_bare_form
  have M_DaySet := k_init (P := P) (w := w) (base := base) T D F_DaySet___init__ C_least_form
  have Q_sign := q_sign (P := P) (w := w) (base := base) T D F_DaySet_sign
  have Q_days_in := q_days_in (P := P) (w := w) (base := base) T D F_DaySet_days_in Q_sign
  have Q_merged := q_merged (P := P) (w := w) (base := base) T D F_DaySet_merged Q_sign C_multiple_of M_DaySet
  have Q_or := q_or (P := P) (w := w) (base := base) T D F_DaySet___or__ Q_merged
  have Q_and := q_and (P := P) (w := w) (base := base) T D F_DaySet___and__ Q_merged
  have Q_sub := q_sub (P := P) (w := w) (base := base) T D F_DaySet___sub__ Q_merged
  have Q_xor := q_xor (P := P) (w := w) (base := base) T D F_DaySet___xor__ Q_merged
  have Q_inv := q_invert (P := P) (w := w) (base := base) T D F_DaySet___invert__ Q_merged
  have Q_str := q_str (P := P) (w := w) (base := base) T D F_DaySet___str__
  have Q_bool := q_bool (P := P) (w := w) (base := base) T D F_DaySet___bool__
  have Q_has := q_contains (P := P) (w := w) (base := base) T D F_DaySet___contains__ Q_sign
  have Q_eq := q_eq (P := P) (w := w) (base := base) T D F_DaySet___eq__ Q_str
  have K_none := q_none (P := P) (w := w) (base := base) T D F_DaySet_none M_DaySet
  have K_every := q_every (P := P) (w := w) (base := base) T D F_DaySet_every M_DaySet
  have C_isrow := c_is_row (P := P) (w := w) (base := base) T F_is_row
  have C_iscount := c_is_count (P := P) (w := w) (base := base) T G_DIGITS F_is_count
  have C_isnumber := c_is_number (P := P) (w := w) (base := base) T F_is_number C_iscount
  have K_read := q_read (P := P) (w := w) (base := base) T D F_DaySet_read C_isnumber C_isrow M_DaySet
  have C_pen := c_pen (P := P) (w := w) (base := base) T F__law_pen
  have C_draw := c_draw (P := P) (w := w) (base := base) T F__law_draw
  have C_signs := c_signs (P := P) (w := w) (base := base) T F__law_signs C_draw
  have C_form := c_form (P := P) (w := w) (base := base) T F__law_form C_draw C_signs
  have ndT : ([(t_0.2, nmD), (t_1.2, nmH)].map fun (p : NdefX.NTab) => p.1).Nodup := by simp [NE_0_1]
  have C_pick := c_pick (P := P) (w := w) (base := base) T F__law_pick C_draw
  have C_rows := c_rows (P := P) (w := w) (base := base) T D F_merged Q_bool Q_str Q_or
  have M_Chart := k_cinit (P := P) (w := w) (base := base) T DC F_Chart___init__ C_rows
  have K_cnone := q_cnone (P := P) (w := w) (base := base) T D DC F_Chart_none K_none K_every M_Chart
  have K_cevery := q_cevery (P := P) (w := w) (base := base) T D DC F_Chart_every K_every M_Chart
  have K_cof := q_cof (P := P) (w := w) (base := base) T D DC F_Chart_of K_none Q_inv M_Chart
  have Q_crossed := q_crossed (P := P) (w := w) (base := base) T D DC F_Chart_crossed Q_and
  have Q_cor := q_cor (P := P) (w := w) (base := base) T D DC F_Chart___or__ Q_crossed Q_or M_Chart
  have Q_cand := q_cand (P := P) (w := w) (base := base) T D DC F_Chart___and__ Q_crossed Q_and M_Chart
  have Q_csub := q_csub (P := P) (w := w) (base := base) T D DC F_Chart___sub__ Q_crossed Q_sub M_Chart
  have Q_cxor := q_cxor (P := P) (w := w) (base := base) T D DC F_Chart___xor__ Q_crossed Q_xor M_Chart
  have Q_cinv := q_cinv (P := P) (w := w) (base := base) T D DC F_Chart___invert__ Q_inv M_Chart
  have Q_cbool := q_cbool (P := P) (w := w) (base := base) T D DC F_Chart___bool__ Q_bool
  have Q_ceq := q_ceq (P := P) (w := w) (base := base) T D DC F_Chart___eq__ Q_cxor Q_cbool
  have C_ch0 := c_chart0 (P := P) (w := w) (base := base) F__law_chart 2
  have C_ch1 := c_chartS (P := P) (w := w) (base := base) 0 (by decide) T F__law_chart C_ch0 C_draw C_form C_pick
  have C_ch2 := c_chartS (P := P) (w := w) (base := base) 1 (by decide) T F__law_chart C_ch1 C_draw C_form C_pick
  have C_ch3 := c_chartS (P := P) (w := w) (base := base) 2 (by decide) T F__law_chart C_ch2 C_draw C_form C_pick
  have C_md0 := c_cmade0 (P := P) (w := w) (base := base) (C := ga K "DaySet") (X := ga K "Chart") F__law_chart_made 10
  have C_md1 := c_cmadeS (P := P) (w := w) (base := base) 0 T D DC F__law_chart_made C_md0 K_read K_cof K_cnone K_cevery Q_cinv Q_cor Q_cand Q_csub Q_cxor
  have C_md2 := c_cmadeS (P := P) (w := w) (base := base) 1 T D DC F__law_chart_made C_md1 K_read K_cof K_cnone K_cevery Q_cinv Q_cor Q_cand Q_csub Q_cxor
  have C_md3 := c_cmadeS (P := P) (w := w) (base := base) 2 T D DC F__law_chart_made C_md2 K_read K_cof K_cnone K_cevery Q_cinv Q_cor Q_cand Q_csub Q_cxor
  have C_days := c_days (P := P) (w := w) (base := base) (TT := [(t_0.2, nmD), (t_1.2, nmH)]) T F__law_days hb hG qt_0.1 TB_0 (by simp) (hu_of ndT (by simp))
  have C_hs0 := c_chas0 (P := P) (w := w) (base := base) (TT := [(t_0.2, nmD), (t_1.2, nmH)]) F__law_chart_has 2
  have C_hs1 := c_chasS (P := P) (w := w) (base := base) (TT := [(t_0.2, nmD), (t_1.2, nmH)]) 0 T F__law_chart_has hb hG qt_1.1 TB_1 (by simp) (hu_of ndT (by simp)) C_hs0 C_days
  have C_hs2 := c_chasS (P := P) (w := w) (base := base) (TT := [(t_0.2, nmD), (t_1.2, nmH)]) 1 T F__law_chart_has hb hG qt_1.1 TB_1 (by simp) (hu_of ndT (by simp)) C_hs1 C_days
  have C_hs3 := c_chasS (P := P) (w := w) (base := base) (TT := [(t_0.2, nmD), (t_1.2, nmH)]) 2 T F__law_chart_has hb hG qt_1.1 TB_1 (by simp) (hu_of ndT (by simp)) C_hs2 C_days
  have Q_crows := q_crows (P := P) (w := w) (base := base) (C := ga K "DaySet") T D DC F_Chart_rows
  have C_forms := c_forms (P := P) (w := w) (base := base) T D DC F__law_forms Q_crows Q_str
  exact ok_law T ST D DC Fl C_pen C_draw C_ch3 C_md3 C_hs3 C_forms K_cnone K_cof K_none K_every Q_crows Q_cinv Q_cor Q_csub Q_ceq Q_or Q_and Q_bool Q_eq Q_has
end Od
open PySem PySem.W PySem.Calls PyProof.Rows
set_option maxRecDepth 100000 in
set_option maxHeartbeats 0 in
theorem PySem.Challenge.cw_onewaydays_k51_rows_of_charts_holds : PySem.Challenge.rw_onewaydays_k51_rows_of_charts.Holds := by
  w_on; o_law
  refine HandSHeadRun.head_any (r := OpenLaw.row PySem.Challenge.rw_onewaydays_k51_rows_of_charts) (q := view (OpenLaw.row PySem.Challenge.rw_onewaydays_k51_rows_of_charts).prog [40]) (H := Od.hkL) (ob := Od.obL) (M := 12000) (loose := Od.namesL) (d := HandSHeadRun.topDef (OpenLaw.row PySem.Challenge.rw_onewaydays_k51_rows_of_charts).prog 40) (kwd := []) Od.obL_eq
    (by kernel_rfl) (fun s => by kernel_rfl) Od.runL (by kernel_rfl) (by kernel_rfl) (by kernel_rfl) (by rfl) (by first | assumption | decide +kernel) (by decide +kernel) ⟨rfl, rfl, rfl, rfl, rfl, by decide +kernel⟩ ?hw ?hc
  case hw => w_witness2
  case hc =>
    refine Od.walk_ofG (l := PySem.Challenge.rw_onewaydays_k51_rows_of_charts) (n := 63) (k := 16) (x := "_law_script") rfl (by decide) (by kernel_rfl) ⟨rfl, by decide, by decide⟩ ?F
    intro w mg fa h Y G hmg0
    obtain ⟨K, KX, nlt, c, ts⟩ := Y
    have hmg : mg ("law" : PySem.Str) = some (.ref fa) := by
      have e : (HandSHeadRun.topDef (OpenLaw.row PySem.Challenge.rw_onewaydays_k51_rows_of_charts).prog 40).name = ("law" : PySem.Str) := by kernel_rfl
      rw [← e]
      exact hmg0
    obtain ⟨t_0, qt_0⟩ := ts "_law_days" (by simp [Od.tsL])
    obtain ⟨t_1, qt_1⟩ := ts "_law_chart_has" (by simp [Od.tsL])
    obtain ⟨fd, hb, hF⟩ := Od.factsL (P := (PySem.Challenge.rw_onewaydays_k51_rows_of_charts).prog) (w := w) KX G hmg c qt_0 qt_1
    exact ⟨K, fd, [t_0, t_1], Od.sp_law K t_0.2 t_1.2, KX, nlt, (fun p hp => by
      simp only [List.mem_cons, List.not_mem_nil, or_false] at hp
      rcases hp with rfl | rfl
      · exact qt_0.2.2
      · exact qt_1.2.2), (fun p hp => by
      simp only [List.mem_cons, List.not_mem_nil, or_false] at hp
      rcases hp with rfl | rfl
      · exact qt_0.2.1
      · exact qt_1.2.1), hb, fun H a ns hl hT hS => ⟨a, ns, rfl, hS, hl, hT t_0 (by simp), hT t_1 (by simp), fun _ => rfl⟩, hF⟩
