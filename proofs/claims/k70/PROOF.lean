import PyProof.Rows.All
import Wide.All
import OpenK.AllK
import Wide.FinOn
import PyProof.StrBlock2
import PyProof.Rows.StrRev
import PyProof.InstEq
import KE.KOpsOwn
import KE.KCallOwn
import HandS.ForMost
import HandS.Wide
import HandS.Codes
import HandS.ClsMeth
import HandS.OwnEq
import HandS.IsInst
import HandS.Walk
import HandS.Head0
import HandS.Head1
import HandS.Head2
import HandS.HeadEnd
import HandS.HeadHook1
import HandS.HeadHook2
import KE.KExcSuper
import HandS.Nested
import HandS.ExcInit
import HandS.ExcSuper
import HandS.ExcField
import HandS.ExcIs
import HandS.TryOnly
import HandS.FStr
import HandS.Sort
import HandS.Conv
import KE.KDictList
import PyProof.EqAt
import PyProof.NeKinds
import HandS.DictComp
import HandS.Comp
import HandS.Dict
import HandS.Star
import HandS.RaiseMore
import HandS.StrMore
import HandS.Deep
import PyProof.Rows.SortShellAny
import HandS.Style
import KE.KIntText
import KE.IntTextLaws
import PyProof.StrLawsRepr
import PySem.Challenge.RW_onewaydays_k70_errors
section
set_option Elab.async false
set_option linter.all false
namespace Day
/-! ### rows that are repeated -/
theorem gd_left {a b : List Bool} {i : Nat} (h : i < a.length) : (a ++ b).getD i false = a.getD i false := by
  rw [List.getD_eq_getElem?_getD, List.getElem?_append_left h, ← List.getD_eq_getElem?_getD]
theorem gd_right {a b : List Bool} {i : Nat} (h : a.length ≤ i) : (a ++ b).getD i false = b.getD (i - a.length) false := by
  rw [List.getD_eq_getElem?_getD, List.getElem?_append_right h, ← List.getD_eq_getElem?_getD]
def cyc (l : List Bool) (z : Int) : Bool := l.getD (z % (l.length : Int)).toNat false
def Per (f : Int → Bool) (p : Int) : Prop := ∀ z, f (z + p) = f z
theorem Per.neg {f : Int → Bool} {p : Int} (h : Per f p) : Per f (-p) := fun z => by
  have := h (z + -p)
  rw [show z + -p + p = z by omega] at this
  exact this.symm
theorem Per.add {f : Int → Bool} {p q : Int} (h : Per f p) (k : Per f q) : Per f (p + q) := fun z => by
  rw [show z + (p + q) = z + p + q by omega, k, h]
theorem Per.nat {f : Int → Bool} {p : Int} (h : Per f p) : ∀ n : Nat, Per f ((n : Int) * p)
  | 0 => fun z => by simp
  | n + 1 => by
    have := (Per.nat h n).add h
    rw [show ((n + 1 : Nat) : Int) * p = (n : Int) * p + p by rw [Int.natCast_add, Int.add_mul]; simp]
    exact this
theorem Per.mul {f : Int → Bool} {p : Int} (h : Per f p) (k : Int) : Per f (k * p) := by
  rcases Int.le_total 0 k with e | e
  · have := h.nat k.toNat
    rwa [Int.toNat_of_nonneg e] at this
  · have := (h.nat (-k).toNat).neg
    rw [Int.toNat_of_nonneg (by omega)] at this
    rwa [show -(-k * p) = k * p by rw [Int.neg_mul, Int.neg_neg]] at this
theorem Per.mod {f : Int → Bool} {p q : Int} (h : Per f p) (k : Per f q) : Per f (q % p) := by
  have e : q % p = q + (-(q / p)) * p := by
    have := Int.mul_ediv_add_emod q p
    rw [Int.neg_mul, Int.mul_comm (q / p) p]
    omega
  rw [e]
  exact k.add (h.mul _)
theorem Per.at {f : Int → Bool} {p : Int} (h : Per f p) (z k : Int) : f (z + k * p) = f z := h.mul k z
/-- the least positive period divides all periods -/
theorem least_per {f : Int → Bool} {p : Int} (h0 : 0 < p) (h : Per f p) : ∃ d : Int, 0 < d ∧ Per f d ∧ (∀ e, 0 < e → Per f e → d ≤ e) ∧ ∀ e, Per f e → e % d = 0 := by
  have key : ∀ n : Nat, ∀ p : Int, p.toNat = n → 0 < p → Per f p → ∃ d : Int, 0 < d ∧ Per f d ∧ ∀ e, 0 < e → Per f e → d ≤ e := by
    intro n
    induction n using Nat.strongRecOn with
    | ind n ih =>
      intro p hp h0 h
      by_cases q : ∃ e, 0 < e ∧ Per f e ∧ e < p
      · obtain ⟨e, e0, eh, el⟩ := q
        exact ih e.toNat (by omega) e rfl e0 eh
      · exact ⟨p, h0, h, fun e e0 eh => by
          rcases Int.lt_or_le e p with z | z
          · exact absurd ⟨e, e0, eh, z⟩ q
          · exact z⟩
  obtain ⟨d, d0, dh, dl⟩ := key _ p rfl h0 h
  refine ⟨d, d0, dh, dl, fun e eh => ?_⟩
  have m0 := Int.emod_nonneg e (show d ≠ 0 by omega)
  have m1 := Int.emod_lt_of_pos e d0
  rcases Int.lt_or_eq_of_le m0 with z | z
  · have := dl _ z (dh.mod eh)
    omega
  · exact z.symm
theorem cyc_per {l : List Bool} : Per (cyc l) l.length := fun z => by
  unfold cyc
  rw [Int.add_emod_right]
theorem cyc_nat {l : List Bool} {i : Nat} (h : i < l.length) : cyc l i = l.getD i false := by
  unfold cyc
  rw [Int.emod_eq_of_lt (by omega) (by omega)]
  simp
theorem cyc_mod {l : List Bool} (z : Int) : cyc l (z % l.length) = cyc l z := by
  unfold cyc
  rw [Int.emod_emod_of_dvd z (Int.dvd_refl _)]
theorem getD_ext {l k : List Bool} (hl : l.length = k.length) (h : ∀ i, i < l.length → l.getD i false = k.getD i false) : l = k := by
  apply List.ext_getElem hl
  intro i h1 h2
  have := h i h1
  rw [List.getD_eq_getElem?_getD, List.getD_eq_getElem?_getD, List.getElem?_eq_getElem h1, List.getElem?_eq_getElem h2] at this
  simpa using this
theorem cyc_ext {l k : List Bool} (hl : l.length = k.length) (h : ∀ z, cyc l z = cyc k z) : l = k :=
  getD_ext hl fun i hi => by
    have := h i
    rwa [cyc_nat hi, cyc_nat (hl ▸ hi)] at this
/-- the row is the least that gives what it gives -/
def Prim (l : List Bool) : Prop := ∀ p : Int, 0 < p → Per (cyc l) p → (l.length : Int) ≤ p
/-- the test of root_of -/
def Root (l : List Bool) (s : Nat) : Prop := l.length % s = 0 ∧ (List.replicate (l.length / s) (l.take s)).flatten = l
theorem rep_getD (u : List Bool) : ∀ (k i : Nat), i < k * u.length → (List.replicate k u).flatten.getD i false = u.getD (i % u.length) false
  | 0, i, h => by simp at h
  | k + 1, i, h => by
    rw [List.replicate_succ, List.flatten_cons]
    rcases Nat.lt_or_ge i u.length with q | q
    · rw [gd_left q, Nat.mod_eq_of_lt q]
    · rw [gd_right q, rep_getD u k (i - u.length) (by rw [Nat.succ_mul] at h; omega), ← Nat.mod_eq_sub_mod q]
theorem rep_len (u : List Bool) (k : Nat) : (List.replicate k u).flatten.length = k * u.length := by
  simp [List.length_flatten]
theorem take_getD (l : List Bool) {s i : Nat} (h : i < s) : (l.take s).getD i false = l.getD i false := by
  rw [List.getD_eq_getElem?_getD, List.getD_eq_getElem?_getD, List.getElem?_take, if_pos h]
theorem Root.cyc {l : List Bool} {s : Nat} (h0 : 0 < s) (hs : s ≤ l.length) (h : Root l s) (z : Int) : cyc (l.take s) z = cyc l z := by
  obtain ⟨hm, he⟩ := h
  have hlen : (l.take s).length = s := by rw [List.length_take]; omega
  have hdiv : s * (l.length / s) = l.length := by
    have := Nat.div_add_mod l.length s
    omega
  have hl0 : 0 < l.length := by omega
  have b0 := Int.emod_nonneg z (show (l.length : Int) ≠ 0 by omega)
  have b1 := Int.emod_lt_of_pos z (show (0 : Int) < l.length by omega)
  rw [← cyc_mod (l := l) z]
  generalize hw : z % (l.length : Int) = w at *
  have e1 : Day.cyc l w = l.getD w.toNat false := by
    have := cyc_nat (l := l) (i := w.toNat) (by omega)
    rwa [Int.toNat_of_nonneg b0] at this
  rw [e1]
  have e2 : l.getD w.toNat false = (l.take s).getD (w.toNat % s) false := by
    conv => lhs; rw [← he]
    rw [rep_getD _ _ _ (by rw [hlen, Nat.mul_comm, hdiv]; omega), hlen]
  rw [e2]
  unfold Day.cyc
  rw [hlen]
  have e3 : z % (s : Int) = w % (s : Int) := by
    rw [← hw, Int.emod_emod_of_dvd]
    exact ⟨((l.length / s : Nat) : Int), by rw [← Int.natCast_mul, hdiv]⟩
  have e4 : (w % (s : Int)).toNat = w.toNat % s := by
    obtain ⟨v, rfl⟩ : ∃ v : Nat, w = (v : Int) := ⟨w.toNat, (Int.toNat_of_nonneg b0).symm⟩
    rw [← Int.natCast_emod, Int.toNat_natCast, Int.toNat_natCast]
  rw [e3, e4]
theorem Root.of_per {l : List Bool} {s : Nat} (h0 : 0 < s) (hs : s ≤ l.length) (hm : l.length % s = 0) (h : Per (Day.cyc l) s) : Root l s := by
  refine ⟨hm, ?_⟩
  have hlen : (l.take s).length = s := by rw [List.length_take]; omega
  have hdiv : s * (l.length / s) = l.length := by
    have := Nat.div_add_mod l.length s
    omega
  have hl : (List.replicate (l.length / s) (l.take s)).flatten.length = l.length := by rw [rep_len, hlen, Nat.mul_comm, hdiv]
  refine getD_ext hl fun i hi => ?_
  rw [rep_getD _ _ _ (by rw [hlen, Nat.mul_comm, hdiv]; omega), hlen, take_getD _ (Nat.mod_lt _ h0)]
  have hi' : i < l.length := by omega
  rw [← cyc_nat hi', ← cyc_nat (show i % s < l.length from Nat.lt_of_lt_of_le (Nat.mod_lt _ h0) hs)]
  have := h.at ((i % s : Nat) : Int) ((i / s : Nat) : Int)
  rw [← this]
  congr 1
  have e := Nat.mod_add_div i s
  have : (i : Int) = ((i % s + s * (i / s) : Nat) : Int) := by rw [e]
  rw [this, Int.natCast_add, Int.natCast_mul, Int.mul_comm (s : Int)]
theorem Root.per {l : List Bool} {s : Nat} (h0 : 0 < s) (hs : s ≤ l.length) (h : Root l s) : Per (Day.cyc l) s := fun z => by
  have hlen : (l.take s).length = s := by rw [List.length_take]; omega
  rw [← h.cyc h0 hs, ← h.cyc h0 hs]
  have := cyc_per (l := l.take s) z
  rwa [hlen] at this
theorem prim_len {l : List Bool} (h : l ≠ []) : 0 < l.length := by
  cases l with
  | nil => exact absurd rfl h
  | cons a b => simp
theorem root_some {l : List Bool} {s : Nat} (h0 : 1 ≤ s) (hs : s < l.length) (h : Root l s) (hb : ∀ t, 1 ≤ t → t < s → ¬ Root l t) : Prim (l.take s) := by
  have hlen : (l.take s).length = s := by rw [List.length_take]; omega
  obtain ⟨d, d0, dh, dl, dd⟩ := least_per (f := Day.cyc l) (p := s) (by omega) (h.per h0 (by omega))
  have e1 := dl s (by omega) (h.per h0 (by omega))
  have hld := dd l.length cyc_per
  have dn : d = ((d.toNat : Nat) : Int) := (Int.toNat_of_nonneg (by omega)).symm
  rcases Int.lt_or_eq_of_le e1 with z | z
  · refine absurd (Root.of_per (l := l) (s := d.toNat) (by omega) (by omega) ?_ (by rw [← dn]; exact dh)) (hb _ (by omega) (by omega))
    rw [dn, ← Int.natCast_emod] at hld
    omega
  · intro p p0 hp
    rw [hlen, ← z]
    refine dl p p0 fun y => ?_
    have := hp y
    rwa [h.cyc h0 (by omega), h.cyc h0 (by omega)] at this
theorem root_none {l : List Bool} (h : l ≠ []) (hb : ∀ t, 1 ≤ t → t < l.length → ¬ Root l t) : Prim l := by
  have hl := prim_len h
  obtain ⟨d, d0, dh, dl, dd⟩ := least_per (f := Day.cyc l) (p := l.length) (by omega) cyc_per
  have e1 := dl l.length (by omega) cyc_per
  have hld := dd l.length cyc_per
  have dn : d = ((d.toNat : Nat) : Int) := (Int.toNat_of_nonneg (by omega)).symm
  rcases Int.lt_or_eq_of_le e1 with z | z
  · refine absurd (Root.of_per (l := l) (s := d.toNat) (by omega) (by omega) ?_ (by rw [← dn]; exact dh)) (hb _ (by omega) (by omega))
    rw [dn, ← Int.natCast_emod] at hld
    omega
  · intro p p0 hp
    rw [← z]
    exact dl p p0 hp
/-! ### turning a row -/
def turn (l : List Bool) (k : Int) : List Bool := l.drop (k % (l.length : Int)).toNat ++ l.take (k % (l.length : Int)).toNat
theorem turn_len (l : List Bool) (k : Int) : (turn l k).length = l.length := by
  unfold turn
  rw [List.length_append, List.length_drop, List.length_take]
  omega
theorem turn_ne {l : List Bool} {k : Int} (h : l ≠ []) : turn l k ≠ [] := fun e => by
  have := turn_len l k
  rw [e] at this
  have := prim_len h
  simp at *
  omega
theorem turn_cyc {l : List Bool} (h : l ≠ []) (k z : Int) : cyc (turn l k) z = cyc l (z + k) := by
  have hl := prim_len h
  have k0 := Int.emod_nonneg k (show (l.length : Int) ≠ 0 by omega)
  have k1 := Int.emod_lt_of_pos k (show (0 : Int) < l.length by omega)
  have z0 := Int.emod_nonneg z (show (l.length : Int) ≠ 0 by omega)
  have z1 := Int.emod_lt_of_pos z (show (0 : Int) < l.length by omega)
  have e1 : cyc l (z + k) = cyc l (z % l.length + k % l.length) := by
    rw [← cyc_mod (z + k), ← cyc_mod (z % l.length + k % l.length), ← Int.add_emod]
  rw [e1]
  have e2 : cyc (turn l k) z = (turn l k).getD (z % l.length).toNat false := by
    show (turn l k).getD (z % ((turn l k).length : Int)).toNat false = _
    rw [turn_len]
  rw [e2]
  unfold turn
  generalize z % (l.length : Int) = y at *
  generalize k % (l.length : Int) = j at *
  rcases Int.lt_or_le (y + j) l.length with q | q
  · rw [gd_left (by rw [List.length_drop]; omega)]
    rw [List.getD_eq_getElem?_getD, List.getElem?_drop, ← List.getD_eq_getElem?_getD]
    have := cyc_nat (l := l) (i := (y + j).toNat) (by omega)
    rw [Int.toNat_of_nonneg (by omega)] at this
    rw [this]
    congr 1
    omega
  · rw [gd_right (by rw [List.length_drop]; omega), List.length_drop, take_getD _ (by omega)]
    have h1 : cyc l (y + j) = cyc l (y + j - l.length) := by
      have := cyc_per (l := l) (y + j - l.length)
      rw [show y + j - (l.length : Int) + l.length = y + j by omega] at this
      exact this
    rw [h1]
    have := cyc_nat (l := l) (i := (y + j - l.length).toNat) (by omega)
    rw [Int.toNat_of_nonneg (by omega)] at this
    rw [this]
    congr 1
    omega
theorem turn_prim {l : List Bool} (h : l ≠ []) (k : Int) (p : Prim l) : Prim (turn l k) := fun q q0 hq => by
  rw [turn_len]
  refine p q q0 fun z => ?_
  have := hq (z - k)
  rw [turn_cyc h, turn_cyc h, show z - k + q + k = z + q by omega, show z - k + k = z by omega] at this
  exact this
/-! ### forms -/
structure Frm where
  l : List Bool
  low : Int
  m : List Bool
  r : List Bool
def Frm.high (F : Frm) : Int := F.low + (F.m.length : Int)
/-- the sign of a day -/
def Frm.mem (F : Frm) (n : Int) : Bool :=
  if F.high ≤ n then cyc F.r (n - F.high) else if n < F.low then cyc F.l (n - F.low) else F.m.getD (n - F.low).toNat false
theorem Frm.low_high (F : Frm) : F.low ≤ F.high := by unfold Frm.high; omega
theorem Frm.mem_up (F : Frm) {n : Int} (h : F.high ≤ n) : F.mem n = cyc F.r (n - F.high) := if_pos h
theorem Frm.mem_dn (F : Frm) {n : Int} (h : n < F.low) : F.mem n = cyc F.l (n - F.low) := by
  unfold Frm.mem
  rw [if_neg (by have := F.low_high; omega), if_pos h]
theorem Frm.mem_mid (F : Frm) {n : Int} (h : F.low ≤ n) (h' : n < F.high) : F.mem n = F.m.getD (n - F.low).toNat false := by
  unfold Frm.mem
  rw [if_neg (by omega), if_neg (by omega)]
theorem Frm.up (F : Frm) {n : Int} (h : F.high ≤ n) : F.mem (n + F.r.length) = F.mem n := by
  rw [F.mem_up h, F.mem_up (by omega), show n + (F.r.length : Int) - F.high = n - F.high + F.r.length by omega, cyc_per]
theorem Frm.dn (F : Frm) {n : Int} (h : n < F.low) : F.mem (n - F.l.length) = F.mem n := by
  rw [F.mem_dn h, F.mem_dn (by omega)]
  have := cyc_per (l := F.l) (n - F.l.length - F.low)
  rw [← this]
  congr 1
  omega
/-- the least form -/
structure Least (F : Frm) : Prop where
  l0 : F.l ≠ []
  r0 : F.r ≠ []
  pl : Prim F.l
  pr : Prim F.r
  body : (F.m ≠ [] ∧ F.mem (F.high - 1) ≠ F.mem (F.high - 1 + F.r.length) ∧ F.mem F.low ≠ F.mem (F.low - F.l.length)) ∨
    (F.m = [] ∧ F.l = F.r ∧ F.low = 0) ∨ (F.m = [] ∧ F.mem (F.high - 1) ≠ F.mem (F.high - 1 + F.r.length))
/-- f comes again after p days upwards from b on -/
def Up (f : Int → Bool) (p b : Int) : Prop := ∀ n, b ≤ n → f (n + p) = f n
/-- .. downwards below b -/
def Dn (f : Int → Bool) (p b : Int) : Prop := ∀ n, n < b → f (n - p) = f n
theorem Up.nat {f : Int → Bool} {p b : Int} (h0 : 0 < p) (h : Up f p b) : ∀ (k : Nat) (n : Int), b ≤ n → f (n + k * p) = f n
  | 0, n, _ => by simp
  | k + 1, n, hn => by
    have e : n + ((k + 1 : Nat) : Int) * p = n + p + k * p := by
      rw [Int.natCast_add, Int.add_mul]
      simp
      omega
    rw [e, Up.nat h0 h k (n + p) (by omega), h n hn]
theorem Dn.nat {f : Int → Bool} {p b : Int} (h0 : 0 < p) (h : Dn f p b) : ∀ (k : Nat) (n : Int), n < b → f (n - k * p) = f n
  | 0, n, _ => by simp
  | k + 1, n, hn => by
    have e : n - ((k + 1 : Nat) : Int) * p = n - p - k * p := by
      rw [Int.natCast_add, Int.add_mul]
      simp
      omega
    rw [e, Dn.nat h0 h k (n - p) (by omega), h n hn]
theorem Up.mono {f : Int → Bool} {p b c : Int} (h : Up f p b) (hc : b ≤ c) : Up f p c := fun n hn => h n (by omega)
theorem Dn.mono {f : Int → Bool} {p b c : Int} (h : Dn f p b) (hc : c ≤ b) : Dn f p c := fun n hn => h n (by omega)
theorem big_mul {p : Int} (h : 0 < p) (z : Int) : ∃ k : Nat, z ≤ k * p := by
  refine ⟨z.toNat, ?_⟩
  have h1 : (z.toNat : Int) * 1 ≤ z.toNat * p := Int.mul_le_mul_of_nonneg_left (by omega) (by omega)
  omega
/-- a period from some day on of a form's function is one of its right row -/
theorem Frm.per_r (F : Frm) (h0 : F.r ≠ []) {p b : Int} (h : Up F.mem p b) : Per (cyc F.r) p := fun z => by
  have hl := prim_len h0
  obtain ⟨k, hk⟩ := big_mul (p := F.r.length) (by omega) (max (b - F.high - z) 0 + max (-z) 0 + max (-p) 0)
  generalize hK : (k : Int) * F.r.length = K at *
  have e1 := F.mem_up (n := z + K + F.high) (by omega)
  have e2 := F.mem_up (n := z + K + F.high + p) (by omega)
  have e3 := h (z + K + F.high) (by omega)
  rw [e1, e2, show z + K + F.high - F.high = z + K by omega, show z + K + F.high + p - F.high = z + p + K by omega, ← hK, cyc_per.at, cyc_per.at] at e3
  exact e3
theorem Frm.per_l (F : Frm) (h0 : F.l ≠ []) {p b : Int} (h : Dn F.mem p b) : Per (cyc F.l) p := fun z => by
  have hl := prim_len h0
  obtain ⟨k, hk⟩ := big_mul (p := F.l.length) (by omega) (max (F.low - b + z) 0 + max z 0 + max p 0 + max (-p) 0 + 1 + max (F.low - b + z + p) 0)
  generalize hK : (k : Int) * F.l.length = K at *
  have e1 := F.mem_dn (n := z + p - K + F.low) (by omega)
  have e2 := F.mem_dn (n := z + p - K + F.low - p) (by omega)
  have e3 := h (z + p - K + F.low) (by omega)
  have e4 : ∀ y : Int, cyc F.l (y - K) = cyc F.l y := fun y => by
    have := cyc_per (l := F.l) |>.at (y - K) k
    rw [hK, show y - K + K = y by omega] at this
    exact this.symm
  rw [e1, e2, show z + p - K + F.low - F.low = z + p - K by omega, show z + p - K + F.low - p - F.low = z - K by omega, e4, e4] at e3
  exact e3.symm
theorem Least.r_le {F : Frm} (L : Least F) {p b : Int} (h0 : 0 < p) (h : Up F.mem p b) : (F.r.length : Int) ≤ p := L.pr p h0 (F.per_r L.r0 h)
theorem Least.l_le {F : Frm} (L : Least F) {p b : Int} (h0 : 0 < p) (h : Dn F.mem p b) : (F.l.length : Int) ≤ p := L.pl p h0 (F.per_l L.l0 h)
theorem Prim.dvd {l : List Bool} (h0 : l ≠ []) (h : Prim l) {p : Int} (hp : Per (cyc l) p) : p % l.length = 0 := by
  have hl := prim_len h0
  have m0 := Int.emod_nonneg p (show (l.length : Int) ≠ 0 by omega)
  have m1 := Int.emod_lt_of_pos p (show (0 : Int) < l.length by omega)
  rcases Int.lt_or_eq_of_le m0 with z | z
  · have := h _ z (cyc_per.mod hp)
    omega
  · exact z.symm
theorem Least.r_dvd {F : Frm} (L : Least F) {p b : Int} (h : Up F.mem p b) : p % F.r.length = 0 := L.pr.dvd L.r0 (F.per_r L.r0 h)
theorem Least.l_dvd {F : Frm} (L : Least F) {p b : Int} (h : Dn F.mem p b) : p % F.l.length = 0 := L.pl.dvd L.l0 (F.per_l L.l0 h)
theorem Least.mono_up {F : Frm} (L : Least F) {p b : Int} (h0 : 0 < p) (h : Up F.mem p b) : Up F.mem F.r.length b := fun n hn => by
  have hl := prim_len L.r0
  obtain ⟨k, hk⟩ := big_mul h0 (max (F.high - n) 0)
  have e1 := h.nat h0 k n hn
  have e2 := h.nat h0 k (n + F.r.length) (by omega)
  have e3 := F.up (n := n + k * p) (by omega)
  rw [← e1, ← e2, ← e3]
  congr 1
  omega
theorem Least.mono_dn {F : Frm} (L : Least F) {p b : Int} (h0 : 0 < p) (h : Dn F.mem p b) : Dn F.mem F.l.length b := fun n hn => by
  have hl := prim_len L.l0
  obtain ⟨k, hk⟩ := big_mul h0 (max (n - F.low + 1) 0)
  have e1 := h.nat h0 k n hn
  have e2 := h.nat h0 k (n - F.l.length) (by omega)
  have e3 := F.dn (n := n - k * p) (by omega)
  rw [← e1, ← e2, ← e3]
  congr 1
  omega
/-- all of it comes again -/
theorem Least.all_per {F : Frm} (L : Least F) (h : F.m = [] ∧ F.l = F.r ∧ F.low = 0) : ∀ n, F.mem n = cyc F.r n := fun n => by
  obtain ⟨hm, hl, h0⟩ := h
  have hh : F.high = 0 := by unfold Frm.high; rw [hm, h0]; rfl
  rcases Int.lt_or_le n 0 with q | q
  · rw [F.mem_dn (by omega), hl, h0]
    congr 1
    omega
  · rw [F.mem_up (by omega), hh]
    congr 1
    omega
theorem Least.up_high {F : Frm} (L : Least F) : Up F.mem F.r.length F.high := fun _ hn => F.up hn
theorem Least.dn_low {F : Frm} (L : Least F) : Dn F.mem F.l.length F.low := fun _ hn => F.dn hn
/-- the odd day at the upper end -/
theorem Least.odd {F : Frm} (L : Least F) (h : ¬ (F.m = [] ∧ F.l = F.r ∧ F.low = 0)) : F.mem (F.high - 1) ≠ F.mem (F.high - 1 + F.r.length) := by
  rcases L.body with z | z | z
  · exact z.2.1
  · exact absurd z h
  · exact z.2
/-- one function has one least form -/
theorem Least.unique {F G : Frm} (L : Least F) (M : Least G) (h : ∀ n, F.mem n = G.mem n) : F = G := by
  have hf : F.mem = G.mem := funext h
  have lr := prim_len L.r0
  have lr' := prim_len M.r0
  have ll := prim_len L.l0
  have ll' := prim_len M.l0
  have e1 : (F.r.length : Int) = G.r.length := by
    have a := L.r_le (p := G.r.length) (b := G.high) (by omega) (by rw [hf]; exact M.up_high)
    have b := M.r_le (p := F.r.length) (b := F.high) (by omega) (by rw [← hf]; exact L.up_high)
    omega
  have e2 : (F.l.length : Int) = G.l.length := by
    have a := L.l_le (p := G.l.length) (b := G.low) (by omega) (by rw [hf]; exact M.dn_low)
    have b := M.l_le (p := F.l.length) (b := F.low) (by omega) (by rw [← hf]; exact L.dn_low)
    omega
  have rows : F.low = G.low → F.high = G.high → F = G := fun a b => by
    have r : F.r = G.r := cyc_ext (by omega) fun z => by
      obtain ⟨k, hk⟩ := big_mul (p := F.r.length) (by omega) (max (-z) 0)
      have x := F.mem_up (n := z + k * F.r.length + F.high) (by omega)
      have y := G.mem_up (n := z + k * F.r.length + F.high) (by omega)
      rw [h, y, ← b, show z + k * (F.r.length : Int) + F.high - F.high = z + k * F.r.length by omega, cyc_per.at, e1, cyc_per.at] at x
      exact x.symm
    have l : F.l = G.l := cyc_ext (by omega) fun z => by
      obtain ⟨k, hk⟩ := big_mul (p := F.l.length) (by omega) (max z 0 + 1)
      have x := F.mem_dn (n := z - k * F.l.length + F.low) (by omega)
      have y := G.mem_dn (n := z - k * F.l.length + F.low) (by omega)
      have s1 := cyc_per (l := F.l) |>.at (z - k * F.l.length) k
      have s2 := cyc_per (l := G.l) |>.at (z - k * G.l.length) k
      rw [show z - k * (F.l.length : Int) + k * F.l.length = z by omega] at s1
      rw [show z - k * (G.l.length : Int) + k * G.l.length = z by omega] at s2
      rw [h, y, ← a, show z - k * (F.l.length : Int) + F.low - F.low = z - k * F.l.length by omega] at x
      rw [s1, s2, ← x, e2]
    have ml : F.m.length = G.m.length := by
      have p := b
      unfold Frm.high at p
      omega
    have m : F.m = G.m := getD_ext ml fun i hi => by
      have p : F.high = F.low + F.m.length := rfl
      have p' : G.high = G.low + G.m.length := rfl
      have x := F.mem_mid (n := F.low + i) (by omega) (by omega)
      have y := G.mem_mid (n := F.low + i) (by omega) (by omega)
      rw [h, y, ← a, show (F.low + (i : Int) - F.low).toNat = i by omega] at x
      exact x.symm
    cases F
    cases G
    simp only at a r l m
    subst a
    subst r
    subst l
    subst m
    rfl
  by_cases pF : F.m = [] ∧ F.l = F.r ∧ F.low = 0
  · have aF := L.all_per pF
    by_cases pG : G.m = [] ∧ G.l = G.r ∧ G.low = 0
    · refine rows (by rw [pF.2.2, pG.2.2]) ?_
      unfold Frm.high
      rw [pF.2.2, pG.2.2, pF.1, pG.1]
    · exfalso
      refine M.odd pG ?_
      rw [← h, ← h, aF, aF, ← e1, cyc_per]
  · by_cases pG : G.m = [] ∧ G.l = G.r ∧ G.low = 0
    · exfalso
      refine L.odd pF ?_
      rw [h, h, M.all_per pG, M.all_per pG, e1, cyc_per]
    · have oF := L.odd pF
      have oG := M.odd pG
      have hh : F.high = G.high := by
        rcases Int.lt_trichotomy F.high G.high with z | z | z
        · exfalso
          refine oG ?_
          have := L.up_high (G.high - 1) (by omega)
          rw [h, h, e1] at this
          exact this.symm
        · exact z
        · exfalso
          refine oF ?_
          have := M.up_high (F.high - 1) (by omega)
          rw [← h, ← h, ← e1] at this
          exact this.symm
      refine rows ?_ hh
      have nF := F.low_high
      have nG := G.low_high
      have mF : ∀ {F : Frm}, F.m ≠ [] → F.low < F.high := fun {F} z => by
        have := prim_len z
        unfold Frm.high
        omega
      have mF0 : ∀ {F : Frm}, F.m = [] → F.low = F.high := fun {F} z => by
        unfold Frm.high
        rw [z]
        simp
      have cmp : ∀ {F G : Frm}, (∀ n, F.mem n = G.mem n) → (F.l.length : Int) = G.l.length → F.mem F.low ≠ F.mem (F.low - F.l.length) → Least G → G.low ≤ F.low := fun {F G} h e o M => by
        rcases Int.lt_or_le F.low G.low with z | z
        · exfalso
          refine o ?_
          have := M.dn_low F.low z
          rw [← h, ← h, ← e] at this
          exact this.symm
        · exact z
      have bF : F.m = [] ∨ (F.m ≠ [] ∧ F.mem F.low ≠ F.mem (F.low - F.l.length)) := by
        rcases L.body with z | z | z
        · exact .inr ⟨z.1, z.2.2⟩
        · exact .inl z.1
        · exact .inl z.1
      have bG : G.m = [] ∨ (G.m ≠ [] ∧ G.mem G.low ≠ G.mem (G.low - G.l.length)) := by
        rcases M.body with z | z | z
        · exact .inr ⟨z.1, z.2.2⟩
        · exact .inl z.1
        · exact .inl z.1
      rcases bF with x | x
      · rcases bG with y | y
        · rw [mF0 x, mF0 y, hh]
        · have q := cmp (fun n => (h n).symm) e2.symm y.2 L
          have := mF y.1
          have := mF0 x
          omega
      · rcases bG with y | y
        · have q := cmp h e2 x.2 M
          have := mF x.1
          have := mF0 y
          omega
        · have q := cmp h e2 x.2 M
          have q' := cmp (fun n => (h n).symm) e2.symm y.2 L
          omega
end Day
end
section
set_option Elab.async false
namespace Day
/-- bounds of a least form from what comes again -/
theorem Least.high_le {F : Frm} (L : Least F) {p b : Int} (p0 : 0 < p) (hb : 0 ≤ b) (h : Up F.mem p b) : F.high ≤ b := by
  by_cases pF : F.m = [] ∧ F.l = F.r ∧ F.low = 0
  · unfold Frm.high
    rw [pF.1, pF.2.2]
    simpa using hb
  · have u := L.mono_up p0 h
    have o := L.odd pF
    rcases Int.lt_or_le b F.high with z | z
    · exact absurd (u (F.high - 1) (by omega)).symm o
    · exact z
theorem Least.low_ge {F : Frm} (L : Least F) {p b : Int} (p0 : 0 < p) (hb : b ≤ 0) (h : Dn F.mem p b) : b - F.l.length - F.r.length ≤ F.low := by
  have d := L.mono_dn p0 h
  have ll := prim_len L.l0
  have lr := prim_len L.r0
  by_cases pF : F.m = [] ∧ F.l = F.r ∧ F.low = 0
  · omega
  · rcases Int.lt_or_le F.low (b - F.l.length - F.r.length) with z | z
    · exfalso
      have hlh := F.low_high
      rcases L.body with y | y | y
      · -- a middle: the day low is odd
        refine y.2.2 ?_
        exact (d F.low (by omega)).symm
      · exact pF y
      · have e : F.high = F.low := by unfold Frm.high; rw [y.1]; simp
        refine y.2 ?_
        have h1 := d (F.high - 1 + F.l.length) (by omega)
        have h2 := F.up (n := F.high - 1 + F.l.length) (by omega)
        have h3 := d (F.high - 1 + F.r.length + F.l.length) (by omega)
        rw [show F.high - 1 + (F.l.length : Int) - F.l.length = F.high - 1 by omega] at h1
        rw [show F.high - 1 + (F.r.length : Int) + F.l.length - F.l.length = F.high - 1 + F.r.length by omega] at h3
        rw [h1, h3, ← h2]
        congr 1
        omega
    · exact z
theorem le_of_dvd {p q : Int} (h0 : 0 < p) (hq : 0 ≤ q) (h : p % q = 0) : q ≤ p := by
  rcases Int.lt_or_le p q with z | z
  · rw [Int.emod_eq_of_lt (by omega) z] at h
    omega
  · exact z
/-- f comes again after p days from b days off 0 on -/
def Fit (f : Int → Bool) (p b : Int) : Prop := Up f p b ∧ Dn f p (-b)
theorem Fit.form {F : Frm} (L : Least F) {p b : Int} (p0 : 0 < p) (hb : 0 ≤ b) (h : Fit F.mem p b) :
    (F.l.length : Int) ≤ p ∧ (F.r.length : Int) ≤ p ∧ p % F.l.length = 0 ∧ p % F.r.length = 0 ∧ F.high ≤ b ∧ -b - 2 * p ≤ F.low := by
  have h1 := L.l_le p0 h.2
  have h2 := L.r_le p0 h.1
  have h3 := L.low_ge p0 (by omega) h.2
  exact ⟨h1, h2, L.l_dvd h.2, L.r_dvd h.1, L.high_le p0 hb h.1, by omega⟩
/-! ### least_form, stage by stage -/
theorem root_pre {l s : List Bool} (h : l ≠ []) (hs : s ≠ []) (e : ∀ z, cyc s z = cyc l z) (p : Prim s) : s ≠ [] ∧ Prim s ∧ ∀ z, cyc s z = cyc l z := ⟨hs, p, e⟩
/-- a row's root -/
structure IsRoot (l s : List Bool) : Prop where
  ne : s ≠ []
  pr : Prim s
  eq : ∀ z, cyc s z = cyc l z
theorem isRoot_self {l : List Bool} (h : l ≠ []) (hb : ∀ t, 1 ≤ t → t < l.length → ¬ Root l t) : IsRoot l l := ⟨h, root_none h hb, fun _ => rfl⟩
theorem isRoot_take {l : List Bool} {s : Nat} (h0 : 1 ≤ s) (hs : s < l.length) (h : Root l s) (hb : ∀ t, 1 ≤ t → t < s → ¬ Root l t) : IsRoot l (l.take s) :=
  ⟨fun e => by have : (l.take s).length = s := by rw [List.length_take]; omega
               rw [e] at this; simp at this; omega, root_some h0 hs h hb, fun z => h.cyc h0 (by omega) z⟩
/-- the right side begins j days earlier -/
theorem mem_back {l m r : List Bool} {low : Int} (r0 : r ≠ []) {j : Nat} (hj : j ≤ m.length) (h : ∀ i, i < j → m.getD (m.length - 1 - i) false = cyc r (-1 - (i : Int))) (n : Int) :
    (Frm.mk l low (m.take (m.length - j)) (turn r (-(j : Int)))).mem n = (Frm.mk l low m r).mem n := by
  have hl : (m.take (m.length - j)).length = m.length - j := by rw [List.length_take]; omega
  have hh : (Frm.mk l low (m.take (m.length - j)) (turn r (-(j : Int)))).high = low + m.length - j := by unfold Frm.high; simp only [hl]; omega
  have hh' : (Frm.mk l low m r).high = low + m.length := rfl
  rcases Int.lt_or_le n low with q | q
  · rw [Frm.mem_dn _ (by exact q), Frm.mem_dn _ (by exact q)]
  · rcases Int.lt_or_le n (low + m.length - j) with q2 | q2
    · rw [Frm.mem_mid _ (by exact q) (by rw [hh]; exact q2), Frm.mem_mid _ (by exact q) (by rw [hh']; omega)]
      exact take_getD _ (by show (n - low).toNat < _; omega)
    · rw [Frm.mem_up _ (by rw [hh]; exact q2), hh]
      show cyc (turn r _) _ = _
      rw [turn_cyc r0]
      rcases Int.lt_or_le n (low + m.length) with q3 | q3
      · rw [Frm.mem_mid _ (by exact q) (by rw [hh']; exact q3)]
        have := h (low + m.length - 1 - n).toNat (by omega)
        show _ = m.getD (n - low).toNat false
        rw [show (n - low).toNat = m.length - 1 - (low + m.length - 1 - n).toNat by omega, this]
        congr 1
        omega
      · rw [Frm.mem_up _ (by rw [hh']; exact q3), hh']
        show cyc r _ = cyc r _
        congr 1
        omega
/-- the left side ends j days later -/
theorem mem_fore {l m r : List Bool} {low : Int} (l0 : l ≠ []) {j : Nat} (hj : j ≤ m.length) (h : ∀ i, i < j → m.getD i false = cyc l (i : Int)) (n : Int) :
    (Frm.mk (turn l j) (low + j) (m.drop j) r).mem n = (Frm.mk l low m r).mem n := by
  have hh : (Frm.mk (turn l j) (low + j) (m.drop j) r).high = low + m.length := by
    unfold Frm.high
    simp only [List.length_drop]
    omega
  have hh' : (Frm.mk l low m r).high = low + m.length := rfl
  rcases Int.lt_or_le n (low + m.length) with q | q
  · rcases Int.lt_or_le n (low + j) with q2 | q2
    · rw [Frm.mem_dn _ (by exact q2)]
      show cyc (turn l j) _ = _
      rw [turn_cyc l0]
      rcases Int.lt_or_le n low with q3 | q3
      · rw [Frm.mem_dn _ (by exact q3)]
        show cyc l _ = cyc l _
        congr 1
        show n - (low + (j : Int)) + j = n - low
        omega
      · rw [Frm.mem_mid _ (by exact q3) (by rw [hh']; exact q)]
        show _ = m.getD (n - low).toNat false
        rw [h _ (show (n - low).toNat < j by omega)]
        congr 1
        show n - (low + (j : Int)) + j = ((n - low).toNat : Int)
        omega
    · rw [Frm.mem_mid _ (by exact q2) (by rw [hh]; exact q), Frm.mem_mid _ (by show low ≤ n; omega) (by rw [hh']; exact q)]
      show (m.drop j).getD (n - (low + j)).toNat false = m.getD (n - low).toNat false
      rw [List.getD_eq_getElem?_getD, List.getElem?_drop, ← List.getD_eq_getElem?_getD]
      congr 1
      omega
  · rw [Frm.mem_up _ (by rw [hh]; exact q), Frm.mem_up _ (by rw [hh']; exact q), hh, hh']
/-- both sides moved where there is no middle -/
theorem mem_bare {l r : List Bool} {low : Int} (l0 : l ≠ []) (r0 : r ≠ []) {j : Nat} (h : ∀ i, i < j → cyc l (-1 - (i : Int)) = cyc r (-1 - (i : Int))) (n : Int) :
    (Frm.mk (turn l (-(j : Int))) (low - j) [] (turn r (-(j : Int)))).mem n = (Frm.mk l low [] r).mem n := by
  have hh : (Frm.mk (turn l (-(j : Int))) (low - j) [] (turn r (-(j : Int)))).high = low - j := by unfold Frm.high; simp
  have hh' : (Frm.mk l low [] r).high = low := by unfold Frm.high; simp
  rcases Int.lt_or_le n (low - j) with q | q
  · rw [Frm.mem_dn _ (by exact q), Frm.mem_dn _ (by show n < low; omega)]
    show cyc (turn l _) _ = cyc l _
    rw [turn_cyc l0]
    congr 1
    show n - (low - (j : Int)) + -(j : Int) = n - low
    omega
  · rw [Frm.mem_up _ (by rw [hh]; exact q), hh]
    show cyc (turn r _) _ = _
    rw [turn_cyc r0]
    rcases Int.lt_or_le n low with q2 | q2
    · rw [Frm.mem_dn _ (by exact q2)]
      show _ = cyc l (n - low)
      have := h (low - 1 - n).toNat (by omega)
      rw [show -1 - (((low - 1 - n).toNat : Nat) : Int) = n - low by omega] at this
      rw [this]
      congr 1
      omega
    · rw [Frm.mem_up _ (by rw [hh']; exact q2), hh']
      show cyc r _ = cyc r _
      congr 1
      omega
/-- two least rows that are unlike part somewhere below -/
theorem bare_part {l r : List Bool} (l0 : l ≠ []) (r0 : r ≠ []) (pl : Prim l) (pr : Prim r) (h : l ≠ r) : ∃ i : Nat, i < l.length * r.length ∧ cyc l (-1 - (i : Int)) ≠ cyc r (-1 - (i : Int)) := by
  have ll := prim_len l0
  have lr := prim_len r0
  refine Classical.byContradiction fun no => h ?_
  have all : ∀ i : Nat, i < l.length * r.length → cyc l (-1 - (i : Int)) = cyc r (-1 - (i : Int)) := fun i hi => Classical.byContradiction fun q => no ⟨i, hi, q⟩
  have N0 : (0 : Int) < ((l.length * r.length : Nat) : Int) := by
    have := Nat.mul_pos ll lr
    omega
  have eqf : ∀ z : Int, cyc l z = cyc r z := fun z => by
    have m0 := Int.emod_nonneg (-1 - z) (show ((l.length * r.length : Nat) : Int) ≠ 0 by omega)
    have m1 := Int.emod_lt_of_pos (-1 - z) N0
    have e := all ((-1 - z) % ((l.length * r.length : Nat) : Int)).toNat (by omega)
    rw [Int.toNat_of_nonneg m0] at e
    have e2 : (-1 - z) % ((l.length * r.length : Nat) : Int) = -1 - z - (-1 - z) / ((l.length * r.length : Nat) : Int) * ((l.length * r.length : Nat) : Int) := by
      have := Int.mul_ediv_add_emod (-1 - z) ((l.length * r.length : Nat) : Int)
      rw [Int.mul_comm] at this
      omega
    generalize (-1 - z) / ((l.length * r.length : Nat) : Int) = K at e2
    have a1 : cyc l z = cyc l (z + K * r.length * l.length) := (cyc_per.at z (K * r.length)).symm
    have a2 : cyc r z = cyc r (z + K * l.length * r.length) := (cyc_per.at z (K * l.length)).symm
    have k1 : K * ((l.length * r.length : Nat) : Int) = K * r.length * l.length := by
      rw [Int.natCast_mul, Int.mul_assoc, Int.mul_comm (r.length : Int)]
    have k2 : K * ((l.length * r.length : Nat) : Int) = K * l.length * r.length := by
      rw [Int.natCast_mul, Int.mul_assoc]
    rw [e2] at e
    rw [a1, a2, ← k1, ← k2]
    rw [show -1 - (-1 - z - K * ((l.length * r.length : Nat) : Int)) = z + K * ((l.length * r.length : Nat) : Int) by omega] at e
    exact e
  have hf : cyc l = cyc r := funext eqf
  refine cyc_ext ?_ eqf
  have a := pl r.length (by omega) (by rw [hf]; exact cyc_per)
  have b := pr l.length (by omega) (by rw [← hf]; exact cyc_per)
  omega
/-- what least_form gives, by its ways -/
theorem least_bare_all {r : List Bool} (low : Int) (r0 : r ≠ []) (pr : Prim r) :
    Least ⟨turn r (-low), 0, [], turn r (-low)⟩ ∧ ∀ n, (Frm.mk (turn r (-low)) 0 [] (turn r (-low))).mem n = (Frm.mk r low [] r).mem n := by
  refine ⟨⟨turn_ne r0, turn_ne r0, turn_prim r0 _ pr, turn_prim r0 _ pr, .inr (.inl ⟨rfl, rfl, rfl⟩)⟩, fun n => ?_⟩
  have hh : (Frm.mk (turn r (-low)) 0 [] (turn r (-low))).high = 0 := by unfold Frm.high; simp
  have hh' : (Frm.mk r low [] r).high = low := by unfold Frm.high; simp
  have e1 : (Frm.mk (turn r (-low)) 0 [] (turn r (-low))).mem n = cyc r (n - low) := by
    rcases Int.lt_or_le n 0 with q | q
    · rw [Frm.mem_dn _ (by exact q)]
      show cyc (turn r _) _ = _
      rw [turn_cyc r0]
      congr 1
      show n - 0 + -low = n - low
      omega
    · rw [Frm.mem_up _ (by rw [hh]; exact q), hh]
      show cyc (turn r _) _ = _
      rw [turn_cyc r0]
      congr 1
      omega
  rw [e1]
  rcases Int.lt_or_le n low with q | q
  · rw [Frm.mem_dn _ (by exact q)]
  · rw [Frm.mem_up _ (by rw [hh']; exact q), hh']
theorem least_bare {l r : List Bool} (low : Int) (l0 : l ≠ []) (r0 : r ≠ []) (pl : Prim l) (pr : Prim r) {j : Nat}
    (h : ∀ i, i < j → cyc l (-1 - (i : Int)) = cyc r (-1 - (i : Int))) (hj : cyc l (-1 - (j : Int)) ≠ cyc r (-1 - (j : Int))) :
    Least ⟨turn l (-(j : Int)), low - j, [], turn r (-(j : Int))⟩ ∧ ∀ n, (Frm.mk (turn l (-(j : Int))) (low - j) [] (turn r (-(j : Int)))).mem n = (Frm.mk l low [] r).mem n := by
  refine ⟨⟨turn_ne l0, turn_ne r0, turn_prim l0 _ pl, turn_prim r0 _ pr, .inr (.inr ⟨rfl, ?_⟩)⟩, mem_bare l0 r0 h⟩
  have hh : (Frm.mk (turn l (-(j : Int))) (low - j) [] (turn r (-(j : Int)))).high = low - j := by unfold Frm.high; simp
  have lr := prim_len r0
  rw [Frm.mem_dn _ (show _ < low - (j : Int) by rw [hh]; omega), Frm.mem_up _ (by rw [hh]; show _ ≤ low - j - 1 + ((turn r _).length : Int); rw [turn_len]; omega), hh]
  show cyc (turn l _) _ ≠ cyc (turn r _) _
  rw [turn_cyc l0, turn_cyc r0, turn_len]
  show cyc l (low - j - 1 - (low - j) + -(j : Int)) ≠ cyc r (low - j - 1 + r.length - (low - j) + -(j : Int))
  rw [show low - (j : Int) - 1 - (low - j) + -(j : Int) = -1 - j by omega, show low - (j : Int) - 1 + r.length - (low - j) + -(j : Int) = -1 - j + r.length by omega, cyc_per]
  exact hj
/-- with a middle whose last day is odd -/
theorem least_mid {l m r : List Bool} (low : Int) (l0 : l ≠ []) (r0 : r ≠ []) (pl : Prim l) (pr : Prim r) (m0 : m ≠ []) (hr : m.getD (m.length - 1) false ≠ cyc r (-1)) {j : Nat} (hj : j ≤ m.length)
    (h : ∀ i, i < j → m.getD i false = cyc l (i : Int)) (he : j = m.length ∨ m.getD j false ≠ cyc l (j : Int)) :
    Least ⟨turn l j, low + j, m.drop j, r⟩ ∧ ∀ n, (Frm.mk (turn l j) (low + j) (m.drop j) r).mem n = (Frm.mk l low m r).mem n := by
  have lm := prim_len m0
  have lr := prim_len r0
  have ll := prim_len l0
  have hm := mem_fore (low := low) (r := r) l0 hj h
  have hh : (Frm.mk (turn l j) (low + j) (m.drop j) r).high = low + m.length := by
    unfold Frm.high
    simp only [List.length_drop]
    omega
  have hh' : (Frm.mk l low m r).high = low + m.length := rfl
  have odd : (Frm.mk (turn l j) (low + j) (m.drop j) r).mem (low + m.length - 1) ≠ (Frm.mk (turn l j) (low + j) (m.drop j) r).mem (low + m.length - 1 + r.length) := by
    rw [hm, hm, Frm.mem_mid _ (show low ≤ _ by omega) (by rw [hh']; omega), Frm.mem_up _ (by rw [hh']; omega), hh']
    show m.getD (low + m.length - 1 - low).toNat false ≠ cyc r _
    rw [show (low + (m.length : Int) - 1 - low).toNat = m.length - 1 by omega, show low + (m.length : Int) - 1 + r.length - (low + m.length) = -1 + r.length by omega, cyc_per]
    exact hr
  refine ⟨⟨turn_ne l0, r0, turn_prim l0 _ pl, pr, ?_⟩, hm⟩
  rw [hh]
  by_cases q : j = m.length
  · refine .inr (.inr ⟨?_, odd⟩)
    show m.drop j = []
    rw [q]
    exact List.drop_length
  · refine .inl ⟨fun e => ?_, odd, ?_⟩
    · have : (m.drop j).length = 0 := by rw [show m.drop j = [] from e]; rfl
      rw [List.length_drop] at this
      omega
    · have hne := he.resolve_left q
      rw [hm, hm]
      show (Frm.mk l low m r).mem (low + j) ≠ (Frm.mk l low m r).mem (low + j - ((turn l j).length : Int))
      rw [turn_len, Frm.mem_mid _ (show low ≤ _ by omega) (by rw [hh']; omega)]
      show m.getD (low + j - low).toNat false ≠ _
      rw [show (low + (j : Int) - low).toNat = j by omega]
      have e2 : (Frm.mk l low m r).mem (low + j - (l.length : Int)) = cyc l j := by
        rcases Int.lt_or_le (low + j - (l.length : Int)) low with z | z
        · rw [Frm.mem_dn _ (by exact z)]
          show cyc l (low + j - l.length - low) = _
          have := cyc_per (l := l) (low + j - l.length - low)
          rw [← this]
          congr 1
          omega
        · rw [Frm.mem_mid _ (by exact z) (by rw [hh']; omega)]
          show m.getD (low + j - l.length - low).toNat false = _
          rw [h _ (show (low + (j : Int) - l.length - low).toNat < j by omega)]
          have := cyc_per (l := l) ((low + (j : Int) - l.length - low).toNat : Int)
          rw [← this]
          congr 1
          omega
      rw [e2]
      exact hne
/-- a form from a window of a function's signs -/
theorem form_of {f : Int → Bool} {row : List Bool} {low : Int} {a b : Nat} (a0 : 0 < a) (b0 : 0 < b) (hl : a + b ≤ row.length) (h : ∀ i, i < row.length → row.getD i false = f (low - a + i))
    (hu : Up f b (low + (row.length - a - b : Nat))) (hd : Dn f a low) (n : Int) : (Frm.mk (row.take a) low ((row.drop a).take (row.length - a - b)) (row.drop (row.length - b))).mem n = f n := by
  have l1 : (row.take a).length = a := by rw [List.length_take]; omega
  have l2 : ((row.drop a).take (row.length - a - b)).length = row.length - a - b := by rw [List.length_take, List.length_drop]; omega
  have l3 : (row.drop (row.length - b)).length = b := by rw [List.length_drop]; omega
  have hh : (Frm.mk (row.take a) low ((row.drop a).take (row.length - a - b)) (row.drop (row.length - b))).high = low + (row.length - a - b : Nat) := by unfold Frm.high; simp only [l2]
  rcases Int.lt_or_le n low with q | q
  · rw [Frm.mem_dn _ (by exact q)]
    show cyc (row.take a) (n - low) = f n
    have m0 := Int.emod_nonneg (n - low) (show (a : Int) ≠ 0 by omega)
    have m1 := Int.emod_lt_of_pos (n - low) (show (0 : Int) < a by omega)
    have e1 : cyc (row.take a) (n - low) = row.getD ((n - low) % (a : Int)).toNat false := by
      unfold cyc
      rw [l1]
      exact take_getD _ (by omega)
    rw [e1, h _ (by omega), Int.toNat_of_nonneg m0]
    have e2 := Int.mul_ediv_add_emod (n - low) (a : Int)
    have e3 : 0 ≤ -((n - low) / (a : Int)) - 1 := by
      have := Int.ediv_neg_of_neg_of_pos (show n - low < 0 by omega) (show (0 : Int) < a by omega)
      omega
    have e4 := hd.nat (by omega) (-((n - low) / (a : Int)) - 1).toNat (low - a + (n - low) % (a : Int)) (by omega)
    rw [← e4, Int.toNat_of_nonneg e3]
    congr 1
    rw [Int.sub_mul, Int.neg_mul, Int.mul_comm ((n - low) / (a : Int))]
    omega
  · rcases Int.lt_or_le n (low + (row.length - a - b : Nat)) with q2 | q2
    · rw [Frm.mem_mid _ (by exact q) (by rw [hh]; exact q2)]
      show ((row.drop a).take (row.length - a - b)).getD (n - low).toNat false = f n
      rw [take_getD _ (by omega), List.getD_eq_getElem?_getD, List.getElem?_drop, ← List.getD_eq_getElem?_getD, h _ (by omega)]
      congr 1
      omega
    · rw [Frm.mem_up _ (by rw [hh]; exact q2), hh]
      show cyc (row.drop (row.length - b)) (n - (low + (row.length - a - b : Nat))) = f n
      generalize hz : n - (low + ((row.length - a - b : Nat) : Int)) = z
      have m0 := Int.emod_nonneg z (show (b : Int) ≠ 0 by omega)
      have m1 := Int.emod_lt_of_pos z (show (0 : Int) < b by omega)
      have e1 : cyc (row.drop (row.length - b)) z = row.getD (row.length - b + (z % (b : Int)).toNat) false := by
        unfold cyc
        rw [l3, List.getD_eq_getElem?_getD, List.getElem?_drop, ← List.getD_eq_getElem?_getD]
      rw [e1, h _ (by omega)]
      have e2 := Int.mul_ediv_add_emod z (b : Int)
      have e3 : 0 ≤ z / (b : Int) := Int.ediv_nonneg (by omega) (by omega)
      have e4 := hu.nat (by omega) (z / (b : Int)).toNat (low - a + ((row.length - b + (z % (b : Int)).toNat : Nat) : Int)) (by omega)
      rw [← e4, Int.toNat_of_nonneg e3]
      congr 1
      rw [Int.mul_comm (z / (b : Int))]
      omega
end Day
end
section
set_option Elab.async false
set_option linter.all false
set_option maxRecDepth 100000
set_option maxHeartbeats 2000000
/-! own operators, texts, classmethods: rules that the hand layer lacks -/
namespace Od
open PySem PySem.Spec PyProof.Rows L2
section
variable {X : Cx} {pins : List (Addr × Obj)} {σ : L2.St} {H : Hp} {s : Shared} {CX : CXT} {k : Nat} {f C : Addr} {sp : Sp} {E : XK} {Q : VK} {us : List Value} {vs : List V} {A : Around}
theorem vr1 (a : Addr) : Vals [V.ref a] [Value.ref a] := .cons rfl .nil
theorem vr2 (a b : Addr) : Vals [V.ref a, V.ref b] [Value.ref a, Value.ref b] := .cons rfl (.cons rfl .nil)
theorem vrx {x : V} {v : Value} (a : Addr) (r : RelV x v) : Vals [V.ref a, x] [Value.ref a, v] := .cons rfl (.cons r .nil)
theorem rvi (n : Int) (t : Tok) : RelV (.int n) (Value.int n t) := ⟨t, rfl⟩
/-- a def called somewhere below the running body -/
theorem fn_at (hA : A.frames = X.A.frames) (hr : Room k A) (F : FnR X.prog X.w X.K X.mg X.base CX k f sp) (hx : Passes CX X E) (I : Inv X pins σ H s) (r : Vals vs us) (h : sp vs H Q E) :
    wpAny (model X.prog X.w) A (call (.ref f) us) (EP X pins σ Q) X.xe s := by
  have e := I.env0
  have e0 : Env0 X.prog X.w X.K X.mg X.base A X.stack s H := ⟨by rw [hA]; exact e.frames, e.mod, e.bs, e.bsz, e.funs, e.frf, e.hok, e.bare⟩
  refine wpAny_call (codeAny_mono (F A X.stack s H us vs Q E hr e0 r h) fun r s' hq => ?_)
  cases r with
  | error e => exact hx pins σ H s e s' I hq
  | ok fl =>
    cases fl with
    | ret u => exact I.after hq
    | next => exact False.elim hq
    | brk => exact False.elim hq
    | cont => exact False.elim hq
theorem cmp_back {u : Value} {s' : Shared} (h : EP X pins σ Q u s') : PySem.W.CmpBack (EP X pins σ Q) u s' := by
  obtain ⟨v, H', I, r, q⟩ := id h
  cases v with
  | non => cases r; exact h
  | bl b => cases r; exact h
  | int i => obtain ⟨t, rfl⟩ := r; exact h
  | str x => obtain ⟨t, rfl⟩ := r; exact h
  | byt b => obtain ⟨t, rfl⟩ := r; exact h
  | flt b => obtain ⟨t, rfl⟩ := r; exact h
  | ref a => cases r; exact h
  | ty n => cases r; exact h
theorem inst_of {a dx : Addr} {fs : List (Str × V)} (I : Inv X pins σ H s) (h : H a = some (.ins C dx fs)) : ∃ od, PySem.W.InstAt s.heap a (PySem.W.instObj C dx) C (some od) := by
  obtain ⟨mA, J, _⟩ := ins_get I.hok h
  obtain ⟨od, J, _⟩ := J.look
  exact ⟨od, J⟩
/-- what the text says of a special method: class C, name nm, def f -/
structure Sm (K : PySem.W.Frag) (C : Addr) (nm : Str) (f : Addr) : Prop where
  at_ : PySem.W.findIn K (.ref C) nm = some (some (.ref f))
  fn : PySem.W.isFn K (.ref f) = true
/-- x op y, both instances of C -/
def rOwn (C : Addr) (sp : Sp) (E : XK) : R2 := fun x y H Q => ∃ a b dx dy fs gs, x = .ref a ∧ y = .ref b ∧ H a = some (.ins C dx fs) ∧ H b = some (.ins C dy gs) ∧ sp [.ref a, .ref b] H Q E
theorem op_own {op : Operator} (hc : PySem.W.selfFirst X.K C = true) (S : Sm X.K C (PySem.dunder op.info.2) f) (F : FnR X.prog X.w X.K X.mg X.base CX k f sp) (hr : Room k X.A) (hx : Passes CX X E) : OpR X (binaryOp op) (rOwn C sp E) := by
  intro pins s σ H x y v u Q I rx ry h
  obtain ⟨a, b, dx, dy, fs, gs, rfl, rfl, ha, hb, q⟩ := h
  cases rx
  cases ry
  obtain ⟨od, J⟩ := inst_of I ha
  obtain ⟨od', J'⟩ := inst_of I hb
  obtain ⟨m, hF⟩ := I.fr
  exact PySem.W.binop_K hF I.ok.mod.kin J J'.type hc S.at_ S.fn (wpAny_mono (fn_at rfl hr F hx I (vr2 a b) q) (fun w s' z => cmp_back z) fun _ _ z => z)
/-- x op n, x an instance of C, n an int -/
def rOwnI (C : Addr) (sp : Sp) (E : XK) : R2 := fun x y H Q => ∃ a n dx fs, x = .ref a ∧ y = .int n ∧ H a = some (.ins C dx fs) ∧ sp [.ref a, .int n] H Q E
theorem op_ownI {op : Operator} {fo ro : Option Value} (hc : PySem.W.selfFirst X.K C = true) (S : Sm X.K C (PySem.dunder op.info.2) f) (hR : PySem.W.findIn X.K (.ref C) (dunderR op.info.2) = some none)
    (h1 : PySem.W.findIn X.K (.type "int") (PySem.dunder op.info.2) = some fo) (h2 : PySem.W.findIn X.K (.type "int") (dunderR op.info.2) = some ro) (hU : PySem.W.subIn X.K (.type "int") (.ref C) = some false)
    (F : FnR X.prog X.w X.K X.mg X.base CX k f sp) (hr : Room k X.A) (hx : Passes CX X E) : OpR X (binaryOp op) (rOwnI C sp E) := by
  intro pins s σ H x y v u Q I rx ry h
  obtain ⟨a, n, dx, fs, rfl, rfl, ha, q⟩ := h
  cases rx
  obtain ⟨t, rfl⟩ := ry
  obtain ⟨od, J⟩ := inst_of I ha
  obtain ⟨m, hF⟩ := I.fr
  exact PySem.W.ksp_binT (T := "int") hF I.ok.mod.kin J rfl hc S.at_ S.fn hR (.inl rfl) h1 h2 hU (wpAny_mono (fn_at rfl hr F hx I (vrx a (rvi n t)) q) (fun w s' z => cmp_back z) fun _ _ z => z)
/-- op x -/
def rOwnU (C : Addr) (sp : Sp) (E : XK) : V → Hp → VK → Prop := fun x H Q => ∃ a dx fs, x = .ref a ∧ H a = some (.ins C dx fs) ∧ sp [.ref a] H Q E
theorem un_ownNeg (S : Sm X.K C "__neg__" f) (F : FnR X.prog X.w X.K X.mg X.base CX k f sp) (hr : Room k X.A) (hx : Passes CX X E) : UnR X (unaryOp .USub) (rOwnU C sp E) := by
  intro pins s σ H x v Q I rx h
  obtain ⟨a, dx, fs, rfl, ha, q⟩ := h
  cases rx
  obtain ⟨od, J⟩ := inst_of I ha
  obtain ⟨m, hF⟩ := I.fr
  exact PySem.W.ksp_neg hF I.ok.mod.kin J S.at_ S.fn (fn_at rfl hr F hx I (vr1 a) q)
theorem un_ownInv (S : Sm X.K C "__invert__" f) (F : FnR X.prog X.w X.K X.mg X.base CX k f sp) (hr : Room k X.A) (hx : Passes CX X E) : UnR X (unaryOp .Invert) (rOwnU C sp E) := by
  intro pins s σ H x v Q I rx h
  obtain ⟨a, dx, fs, rfl, ha, q⟩ := h
  cases rx
  obtain ⟨od, J⟩ := inst_of I ha
  obtain ⟨m, hF⟩ := I.fr
  exact PySem.W.ksp_inv hF I.ok.mod.kin J S.at_ S.fn (fn_at rfl hr F hx I (vr1 a) q)
/-- x == y, x <= y ..: any value back -/
theorem op_ownCmp {op : CmpOp} (hop : ∀ v u, compareOp op v u = richCompare op v u) (S : Sm X.K C (cmpInfo op).2.1 f) (F : FnR X.prog X.w X.K X.mg X.base CX k f sp) (hr : Room k X.A) (hx : Passes CX X E) : OpR X (compareOp op) (rOwn C sp E) := by
  intro pins s σ H x y v u Q I rx ry h
  obtain ⟨a, b, dx, dy, fs, gs, rfl, rfl, ha, hb, q⟩ := h
  cases rx
  cases ry
  obtain ⟨od, J⟩ := inst_of I ha
  obtain ⟨od', J'⟩ := inst_of I hb
  obtain ⟨m, hF⟩ := I.fr
  rw [hop]
  exact PySem.W.cmp_K (tb := .ref C) hr.units0 hF I.ok.mod.kin J J'.type (by simp [PySem.W.notFirst]) S.at_ S.fn (wpAny_mono (fn_at rfl hr F hx I (vr2 a b) q) (fun w s' z => cmp_back z) fun _ _ z => z)
/-- x in y, y an instance of C with __contains__ that gives a bool -/
def rOwnIn (C : Addr) (sp : Sp) (E : XK) (neg : Bool) : R2 := fun x y H Q => ∃ a dx fs, y = .ref a ∧ H a = some (.ins C dx fs) ∧ sp [.ref a, x] H (fun r H' => ∃ b, r = .bl b ∧ Q (.bl (if neg then !b else b)) H') E
theorem op_ownIn (S : Sm X.K C "__contains__" f) (F : FnR X.prog X.w X.K X.mg X.base CX k f sp) (hr : Room k X.A) (hx : Passes CX X E) : OpR X (compareOp .In) (rOwnIn C sp E false) := by
  intro pins s σ H x y v u Q I rx ry h
  obtain ⟨a, dx, fs, rfl, ha, q⟩ := h
  cases ry
  obtain ⟨od, J⟩ := inst_of I ha
  obtain ⟨m, hF⟩ := I.fr
  refine PySem.W.in_K hF I.ok.mod.kin J S.at_ S.fn (wpAny_mono (fn_at rfl hr F hx I (vrx a rx) q) (fun w s' z => ?_) fun _ _ z => z)
  obtain ⟨v', H', I', r', b, rfl, q'⟩ := z
  cases r'
  exact wpAny_truthy_bool ⟨V.bl b, H', I', rfl, q'⟩
theorem op_ownNotIn (S : Sm X.K C "__contains__" f) (F : FnR X.prog X.w X.K X.mg X.base CX k f sp) (hr : Room k X.A) (hx : Passes CX X E) : OpR X (compareOp .NotIn) (rOwnIn C sp E true) := by
  intro pins s σ H x y v u Q I rx ry h
  obtain ⟨a, dx, fs, rfl, ha, q⟩ := h
  cases ry
  obtain ⟨od, J⟩ := inst_of I ha
  obtain ⟨m, hF⟩ := I.fr
  refine PySem.W.notIn_K hF I.ok.mod.kin J S.at_ S.fn (wpAny_mono (fn_at rfl hr F hx I (vrx a rx) q) (fun w s' z => ?_) fun _ _ z => z)
  obtain ⟨v', H', I', r', b, rfl, q'⟩ := z
  cases r'
  exact wpAny_truthy_bool ⟨V.bl (!b), H', I', rfl, q'⟩
/-- the truth of an instance by __bool__ -/
def rTru (C : Addr) (sp : Sp) (E : XK) : V → Hp → (Bool → Hp → Prop) → Prop := fun x H Q => ∃ a dx fs, x = .ref a ∧ H a = some (.ins C dx fs) ∧ sp [.ref a] H (fun r H' => ∃ b, r = .bl b ∧ Q b H') E
theorem tru_own (S : Sm X.K C "__bool__" f) (F : FnR X.prog X.w X.K X.mg X.base CX k f sp) (hr : Room k X.A) (hx : Passes CX X E) : TruR X (rTru C sp E) := by
  intro pins s σ H x v Q I rx h
  obtain ⟨a, dx, fs, rfl, ha, q⟩ := h
  cases rx
  obtain ⟨od, J⟩ := inst_of I ha
  obtain ⟨m, hF⟩ := I.fr
  refine PySem.W.truthy_K hF I.ok.mod.kin J S.at_ S.fn (wpAny_mono (fn_at rfl hr F hx I (vr1 a) q) (fun w s' z => ?_) fun _ _ z => z)
  obtain ⟨v', H', I', r', b, rfl, q'⟩ := z
  cases r'
  exact ⟨H', I', q'⟩
/-- str(x) by __str__ -/
theorem Room.in2 {A : Around} (r : Room (k + 1) A) : Room k A.in1.in1 :=
  ⟨r.hd, by have := r.dp; show A.depth + 3 * k + 5 < _; omega, by have := r.un; show A.units + 1 + 1 + 16 * k + 200 < _; omega⟩
def rStr (C : Addr) (sp : Sp) (E : XK) : List V → Hp → VK → Prop := fun xs H Q => ∃ a dx fs, xs = [.ref a] ∧ H a = some (.ins C dx fs) ∧ sp [.ref a] H (fun r H' => ∃ z, r = .str z ∧ Q (.str z) H') E
theorem call_str_own (S : Sm X.K C "__str__" f) (F : FnR X.prog X.w X.K X.mg X.base CX k f sp) (hr : Room (k + 1) X.A) (hx : Passes CX X E) : CallR X (.type "str") (rStr C sp E) := by
  intro pins s σ H xs us Q I r h
  obtain ⟨a, dx, fs, rfl, ha, q⟩ := h
  cases r.ref1
  obtain ⟨od, J⟩ := inst_of I ha
  have hr2 := Room.in2 hr
  refine PySem.W.kso_call hr2.units0 I.kIn J S.at_ S.fn (wpAny_mono (fn_at (A := X.A.in1.in1) rfl hr2 F hx I (vr1 a) q) (fun w s' z => ?_) fun _ _ z => z)
  obtain ⟨v', H', I', r', b, rfl, q'⟩ := z
  obtain ⟨t, rfl⟩ := r'
  exact ⟨V.str b, H', I', ⟨t, rfl⟩, q'⟩
/-- x != y by the inherited __ne__, over an own __eq__ that gives a bool -/
def rOwnNe (C : Addr) (sp : Sp) (E : XK) : R2 := fun x y H Q => ∃ a b dx dy fs gs, x = .ref a ∧ y = .ref b ∧ H a = some (.ins C dx fs) ∧ H b = some (.ins C dy gs) ∧ sp [.ref a, .ref b] H (fun r H' => ∃ e, r = .bl e ∧ Q (.bl (!e)) H') E
theorem ne_lookup {K : PySem.W.Frag} {C : Addr} (h : PySem.W.findIn K (.ref C) "__ne__" = some (some (.builtin "object.__ne__"))) : PySem.W.findIn K (.ref C) "__ne__" = some (some (.builtin "object.__ne__")) := h
theorem slot_ne : Slot "object" "__ne__" "object.__ne__" :=
  .of (owner := "object") (n := "__ne__") (by rw [typeLookup_type, builtinLookup_eq_fast]; kernel_rfl) (by decide +kernel) (by decide +kernel) (by decide +kernel)
    (by first | exact .inl (by decide +kernel) | exact .inr (by decide +kernel)) (by rw [isSubtype_type]; kernel_rfl)
theorem ifBound_ne {M : Model} {A : Around} {E : Value → Shared → Prop} {s : Shared} {K : PySem.W.Frag} {x C : Addr} {ox : Obj} {od : Option Obj} {args : List Value} {Q : Option Value → Shared → Prop} (X : K.In s.heap) (I : PySem.W.InstAt s.heap x ox C od)
    (hs : PySem.W.findIn K (.ref C) "__ne__" = some (some (.builtin "object.__ne__")))
    (h : wpAny M A (call (.builtin "object.__ne__") (.ref x :: args)) (fun v => Q (some v)) E s) : wpAny M A (callSpecialIfBound? (.ref x) "__ne__" args) Q E s := by
  simp only [callSpecialIfBound?, bindSpecialIfBound?]
  refine wpAny_holding (wpAny_bind (wpAny_bind (wpAny_bind (I.type.here ((PySem.W.looks_findIn X hs).here ?_)))))
  refine wpAny_bind (wpAny_askSetting (wpAny_ite ?_))
  have fin : wpAny M A (call (.builtin "object.__ne__") ([.ref x] ++ args) >>= fun v => pure (some v)) Q E s := wpAny_bind (wpAny_mono h (fun v s' h' => wpAny_pure h') fun _ _ h' => h')
  have hb := slot_ne.bind (.ref x)
  split
  · refine wpAny_bind (wpAny_of_eq hb (wpAny_pure (by exact fin)))
  · refine wpAny_tryCatch (wpAny_bind (wpAny_of_eq hb (wpAny_pure (by exact fin))))
theorem op_ownNe (S : Sm X.K C "__eq__" f) (N : PySem.W.findIn X.K (.ref C) "__ne__" = some (some (.builtin "object.__ne__"))) (O : PySem.W.mroIn X.K C (.type "object") = some true) (F : FnR X.prog X.w X.K X.mg X.base CX k f sp) (hr : Room (k + 1) X.A) (hx : Passes CX X E) :
    OpR X (compareOp .NotEq) (rOwnNe C sp E) := by
  intro pins s σ H x y v u Q I rx ry h
  obtain ⟨a, b, dx, dy, fs, gs, rfl, rfl, ha, hb, q⟩ := h
  cases rx
  cases ry
  obtain ⟨od, J⟩ := inst_of I ha
  obtain ⟨od', J'⟩ := inst_of I hb
  have hr1 := hr.in1
  show wpAny (model X.prog X.w) X.A (richCompare .NotEq (.ref a) (.ref b)) (EP X pins σ Q) X.xe s
  have one : wpAny (model X.prog X.w) X.A (tryCompare (.ref a) "__ne__" (.ref b)) (fun r s' => ∃ v, r = some v ∧ EP X pins σ Q v s') X.xe s := by
    unfold tryCompare
    refine wpAny_bind (ifBound_ne I.kIn J N ?_)
    refine wpAny_call (codeAny_call_builtin slot_ne.plain PySem.F.cmpEntry_ne (@PySem.W.check_slot (model X.prog X.w) _ _ s "object.__ne__" "object" "__ne__" (.ref a) [.ref b] [] _ PySem.F.cmpKind_ne PySem.F.cmpSplit_ne (J.type.andThen (PySem.W.looks_mroIn I.kIn O)) (PySem.F.cmpArgs_ne _ _) ?_))
    unfold Builtin.«object.__ne__»
    refine wpAny_bind (m := slotArgs "__ne__" 1 _) (wpAny_pure ?_)
    refine wpAny_bind (wpAny_cRoomFor hr1.units0 ?_)
    refine wpAny_bind (PySem.W.ifBound_K I.kIn J S.at_ S.fn (wpAny_mono (fn_at (A := X.A.in1) rfl hr1 F hx I (vr2 a b) q) (fun w s' z => ?_) fun _ _ z => z))
    obtain ⟨v', H', I', r', e, rfl, q'⟩ := z
    cases r'
    refine wpAny_bind (wpAny_truthy_bool (wpAny_pure ?_))
    exact wpAny_pure ⟨_, rfl, ⟨V.bl (!e), H', I', rfl, q'⟩⟩
  unfold richCompare
  simp only [oneThing_ref]
  refine wpAny_holding (wpAny_bind (wpAny_cRoomFor hr.units0 ?_))
  refine wpAny_bind (J.type.here (wpAny_bind (J'.type.here ?_)))
  rw [if_neg (by simp)]
  refine wpAny_bind (wpAny_pure ?_)
  simp only [Bool.false_eq_true, if_false]
  refine wpAny_bind (wpAny_mono one (fun r s' z => ?_) fun _ _ e => e)
  obtain ⟨v, rfl, hq⟩ := z
  exact wpAny_pure hq
/-! ### texts -/
/-- a text n times -/
theorem foldl_app (c : Array Nat) : ∀ (n : Nat) (acc : Array Nat), ((List.replicate n c).foldl (· ++ ·) acc).toList = acc.toList ++ (List.replicate n c.toList).flatten
  | 0, acc => by simp
  | n + 1, acc => by
    rw [List.replicate_succ, List.foldl_cons, foldl_app c n (acc ++ c), List.replicate_succ, List.flatten_cons, Array.toList_append, List.append_assoc]
theorem mul_tl (x : Str) (n : Nat) : (Txt.mul x (n : Int)).cps.toList = (List.replicate n x.cps.toList).flatten := by
  unfold Txt.mul
  by_cases h1 : (n : Int) < 1
  · rw [if_pos h1]
    have : n = 0 := by omega
    subst this
    rfl
  · rw [if_neg h1]
    by_cases h2 : ((n : Int) == 1 || x.length == 0) = true
    · rw [if_pos h2]
      rcases Bool.or_eq_true_iff.mp h2 with e | e
      · have e1 : (n : Int) = 1 := eq_of_beq e
        have : n = 1 := by omega
        subst this
        simp
      · have e1 : x.length = 0 := eq_of_beq e
        have e2 : x.cps.toList = [] := by
          have : x.cps.size = 0 := e1
          exact List.eq_nil_of_length_eq_zero (by simpa using this)
        rw [e2]
        simp
    · rw [if_neg h2]
      show ((List.replicate (n : Int).toNat x.cps).foldl (· ++ ·) #[]).toList = _
      rw [foldl_app, Int.toNat_natCast]
      simp
def rMulS : R2 := fun x y H Q => ∃ (z : Str) (n : Nat), x = .str z ∧ y = .int (n : Int) ∧ z.length * n ≤ 16777216 ∧ n ≤ 16777216 ∧ Q (.str (Txt.mul z (n : Int))) H
theorem op_mulS : OpR X (binaryOp .Mult) rMulS := by
  intro pins s σ H x y v u Q I rx ry h
  obtain ⟨z, n, rfl, rfl, h1, h2, q⟩ := h
  obtain ⟨t, rfl⟩ := rx
  obtain ⟨t', rfl⟩ := ry
  refine SB.mul ⟨?_, fun h3 _ h4 => ?_, fun _ _ => ?_⟩ fun t2 k => ⟨.str _, H, I.tok _, ⟨_, rfl⟩, q⟩
  · have a : ¬ ((n : Int) < -(2 ^ 63 : Int)) := by omega
    have b : ¬ ((n : Int) ≥ 2 ^ 63) := by
      have : (2 : Int) ^ 63 = 9223372036854775808 := by decide
      omega
    rw [decide_eq_false a, decide_eq_false b]
    rfl
  · have e : (2 : Int) ^ 63 = 9223372036854775808 := by decide
    rw [e] at h4
    have hn : (1 : Int) ≤ n := by omega
    have := Int.lt_mul_of_ediv_lt (show (0 : Int) < n by omega) h4
    have h5 : ((z.length * n : Nat) : Int) = (z.length : Int) * n := by rw [Int.natCast_mul]
    omega
  · rw [Int.toNat_natCast]
    unfold Builtin.Str.tooLong
    have : sizeLine = 16777216 := sizeLine_eq
    simp
    omega
/-- s[::-1] -/
def revS (z : Str) : Str := ⟨z.cps.toList.reverse.toArray⟩
def tRevS (te : TE) : TE := fun σ H Q => te σ H fun x H1 => ∃ z : Str, x = .str z ∧ z.length ≤ sizeLine ∧ Q (.str (revS z)) H1
theorem rev_list {α : Type} (l : List α) (d : α) : (List.range l.length).map (fun k => l.getD (l.length - 1 - k) d) = l.reverse := by
  apply List.ext_getElem
  · simp
  · intro i h1 h2
    have hi : i < l.length := by simpa using h2
    rw [List.getElem_map, List.getElem_range, List.getElem_reverse, List.getD_eq_getElem?_getD, List.getElem?_eq_getElem (by omega)]
    simp
theorem rev_pick (z : Str) : ((Builtin.Str.strSliceIndices none none (-1) z.length).filterMap (z.cps[·]?)) = z.cps.toList.reverse := by
  rw [picked_rev, filterMap_get, List.map_map]
  · rw [← rev_list z.cps.toList 0]
    have e : z.length = z.cps.toList.length := by simp [Str.length]
    rw [e]
    apply List.map_congr_left
    intro k hk
    have hk' : k < z.cps.toList.length := List.mem_range.mp hk
    have h2 : z.cps.toList.length - 1 - k < z.cps.size := by
      have : z.cps.toList.length = z.cps.size := Array.length_toList
      omega
    rw [List.getD_eq_getElem?_getD, Array.getElem?_toList]
    have h3 : z.cps.size - 1 - k < z.cps.size := by
      have : z.cps.toList.length = z.cps.size := Array.length_toList
      omega
    simp [Array.getD, dif_pos h3, Array.getElem?_eq_getElem h3]
  · intro i hi
    obtain ⟨k, hk, rfl⟩ := List.mem_map.mp hi
    have hk' : k < z.length := List.mem_range.mp hk
    show z.length - 1 - k < z.length
    omega
theorem pe_revS {e : Expr} {te : TE} {k : Nat} {p1 p2 p3 pos : Pos} (he : PE X e te) : PE X (.Subscript e (.Slice none none (some (.UnaryOp .USub (.Constant (.int 1) k p1) p2)) p3) pos) (tRevS te) := by
  refine ⟨fun pins s σ H Q I h => ?_⟩
  refine Subscript_ (thn (he.run pins s σ H _ I h) fun v s1 ⟨x, H1, I1, r1, q1⟩ => ?_)
  obtain ⟨z, ex, hz, q⟩ := q1
  subst ex
  obtain ⟨t, rfl⟩ := r1
  have hst : PO X (some (.UnaryOp .USub (.Constant (.int 1) k p1) p2)) (tPart (tUn (rU fun i => .int (-i)) (tC (.int 1)))) := po_some (pe_un un_neg pe_int)
  refine wpAny_Slice (thn (po_none.run pins s1 σ H1 (fun o H2 => o = none ∧ H2 = H1) I1 ⟨rfl, rfl⟩) fun vl s2 ⟨l, H2, I2, pl, el, e2⟩ => ?_)
  subst el e2
  refine thn (po_none.run pins s2 σ H2 (fun o H3 => o = none ∧ H3 = H2) I2 ⟨rfl, rfl⟩) fun vu s3 ⟨u, H3, I3, pu, eu, e3⟩ => ?_
  subst eu e3
  refine thn (hst.run pins s3 σ H3 (fun o H4 => o = some (-1) ∧ H4 = H3) I3 ⟨1, rfl, -1, rfl, rfl, rfl⟩) fun vs s4 ⟨o, H4, I4, ps, eo, e4⟩ => ?_
  subst eo e4
  have I5 : Inv X pins σ H4 { s4 with heap := s4.heap.push { cls := .type "slice", data := .fields #[vl, vu, vs] } } := I4.kept (t' := s4.toks) fun b ob q => Heap.get?_push_of_some _ q
  obtain ⟨l, rfl, hl⟩ := IsPart.raw pl
  obtain ⟨u, rfl, hu⟩ := IsPart.raw pu
  obtain ⟨w, rfl, hw⟩ := IsPart.raw ps
  cases l with
  | some p => cases hl
  | none =>
    cases u with
    | some p => cases hu
    | none =>
      cases w with
      | none => cases hw
      | some p =>
        obtain ⟨m, tk⟩ := p
        have em : m = -1 := by simpa using hw
        subst em
        show wpAny (model X.prog X.w) X.A (subscriptTail e (.Slice none none (some (.UnaryOp .USub (.Constant (.int 1) k p1) p2)) p3) (.str z t) (.ref s4.heap.objs.size)) (EP X pins σ Q) X.xe _
        refine tail_any (ops := [.str z t, .ref s4.heap.objs.size]) (typeIs_str _ _ _) F.slot_str_getitem.lookup ?_ (by with_unfolding_all rfl)
        obtain ⟨os, hos, hcs, hds⟩ := Heap.IsSliceOf.new s4.heap (partValue none) (partValue none) (partValue (some ((-1 : Int), tk)))
        refine wpAny_getItem_str_slice (l := none) (u := none) (st := some ((-1 : Int), tk)) ⟨os, hos, hcs, hds⟩ rfl ?_
        show Made.post (if ((-1 : Int) == 1 && (Builtin.Str.strSliceIndices none none (-1) z.length).length == z.length) = true then Made.val (.str z t)
          else Made.str ⟨((Builtin.Str.strSliceIndices none none (-1) z.length).filterMap (z.cps[·]?)).toArray⟩) (EP X pins σ Q) _
        rw [if_neg (by simp), rev_pick]
        refine ⟨?_, .str (revS z), H4, I5.tok _, ⟨_, rfl⟩, q⟩
        show (z.cps.toList.reverse.toArray).size ≤ sizeLine
        rw [List.size_toArray, List.length_reverse, Array.length_toList]
        exact hz
/-- bool(x), x an instance with __bool__ -/
def rBool (C : Addr) (sp : Sp) (E : XK) : List V → Hp → VK → Prop := fun xs H Q => ∃ a dx fs, xs = [.ref a] ∧ H a = some (.ins C dx fs) ∧ sp [.ref a] H (fun r H' => ∃ b, r = .bl b ∧ Q (.bl b) H') E
theorem call_bool_own (S : Sm X.K C "__bool__" f) (F : FnR X.prog X.w X.K X.mg X.base CX k f sp) (hr : Room (k + 1) X.A) (hx : Passes CX X E) : CallR X (.type "bool") (rBool C sp E) := by
  intro pins s σ H xs us Q I r h
  obtain ⟨a, dx, fs, rfl, ha, q⟩ := h
  cases r.ref1
  obtain ⟨od, J⟩ := inst_of I ha
  obtain ⟨m, hF⟩ := I.fr
  have hr2 := Room.in2 hr
  refine callType_codes (T := "bool") (Bi := Builtin.«object.__init__») (Q₁ := fun r s₁ => (∃ b, r = .bool b) ∧ EP X pins σ Q r s₁) PySem.F.called_bool (PySem.F.typeCall_bool_1 _) PySem.F.entry_object_init ?_ ?_
  · refine codeAny_of_tree ?_
    show wpAny _ X.A.in1.in1 (do checkBuiltinCall "bool.__new__" ⟨[.type "bool", .ref a], []⟩; again (.builtin "bool.__new__" ⟨[.type "bool", .ref a], []⟩)) _ _ s
    refine wpAny_bind (wpAny_of_eq (PySem.F.newCall_bool_1 _) (wpAny_pure ⟨plainId_quiet (by decide +kernel) _, codeAny_builtin PySem.F.entry_bool_new ?_⟩))
    rw [Around.under_plainId (by decide +kernel) _]
    have f1 := PySem.F.conv_sub_bool
    have tr : wpAny (model X.prog X.w) X.A.in1.in1 (truthy (.ref a)) (fun b s' => EP X pins σ Q (.bool b) s') X.xe s := by
      refine PySem.W.truthy_K hF I.ok.mod.kin J S.at_ S.fn (wpAny_mono (fn_at (A := X.A.in1.in1) rfl hr2 F hx I (vr1 a) q) (fun w s' z => ?_) fun _ _ z => z)
      obtain ⟨v', H', I', r', b, rfl, q'⟩ := z
      cases r'
      exact ⟨V.bl b, H', I', rfl, q'⟩
    unfold Builtin.«bool.__new__»
    obtain ⟨hp, g, d, tk, os⟩ := s
    repeat (first | (with_reducible refine wpAny_mono tr (fun b s' hb => ?_) fun _ _ z => z) | wp_step)

    exact ⟨⟨b, rfl⟩, hb⟩
  · rintro obj s₁ ⟨⟨b, rfl⟩, hq⟩
    exact ⟨rfl, PySem.F.args_object_init_2 _ _, object_init_meets PySem.F.called_bool.init.lookup PySem.F.called_bool.made (by decide) X.prog X.w X.A.in1 _ s₁ ⟨rfl, rfl, hq⟩⟩
end
end Od
namespace Od
open PySem PySem.Spec PyProof.Rows L2 C8
section
variable {X : Cx} {k j : Nat} {C : Addr} {m : Str} {sp : Sp} {dvs : List V} {o e : Expr} {es : List Expr} {ta : TE} {t : TA} {p pos apos : Pos}
theorem Met.raw (c : C8.Met X.prog X.w X.K X.mg X.base k C m sp []) : ∃ f, Sm X.K C m f ∧ FnR X.prog X.w X.K X.mg X.base C8.CX0 k f sp := by
  obtain ⟨f, fd, ps, ds, hc, hm, F, b, d⟩ := c.ex
  exact ⟨f, ⟨hm.at_, hm.fn⟩, (F.raw b d).imp fun vs H Q E h => by rw [List.append_nil]; exact h⟩
theorem op_ownM {op : Operator} (hc : PySem.W.selfFirst X.K C = true) (c : C8.Met X.prog X.w X.K X.mg X.base k C (PySem.dunder op.info.2) sp []) (hr : Room j X.A) (hk : k ≤ j) : OpR X (binaryOp op) (rOwn C sp C8.E0) := by
  obtain ⟨f, S, F⟩ := Met.raw c
  exact op_own hc S F (hr.mono hk) C8.pass0
theorem op_ownIM {op : Operator} {fo ro : Option Value} (hc : PySem.W.selfFirst X.K C = true) (c : C8.Met X.prog X.w X.K X.mg X.base k C (PySem.dunder op.info.2) sp []) (hR : PySem.W.findIn X.K (.ref C) (dunderR op.info.2) = some none) (hr : Room j X.A) (hk : k ≤ j)
    (h1 : PySem.W.findIn X.K (.type "int") (PySem.dunder op.info.2) = some fo) (h2 : PySem.W.findIn X.K (.type "int") (dunderR op.info.2) = some ro) (hU : PySem.W.subIn X.K (.type "int") (.ref C) = some false) : OpR X (binaryOp op) (rOwnI C sp C8.E0) := by
  obtain ⟨f, S, F⟩ := Met.raw c
  exact op_ownI hc S hR h1 h2 hU F (hr.mono hk) C8.pass0
theorem un_ownNegM (c : C8.Met X.prog X.w X.K X.mg X.base k C "__neg__" sp []) (hr : Room j X.A) (hk : k ≤ j) : UnR X (unaryOp .USub) (rOwnU C sp C8.E0) := by
  obtain ⟨f, S, F⟩ := Met.raw c
  exact un_ownNeg S F (hr.mono hk) C8.pass0
theorem un_ownInvM (c : C8.Met X.prog X.w X.K X.mg X.base k C "__invert__" sp []) (hr : Room j X.A) (hk : k ≤ j) : UnR X (unaryOp .Invert) (rOwnU C sp C8.E0) := by
  obtain ⟨f, S, F⟩ := Met.raw c
  exact un_ownInv S F (hr.mono hk) C8.pass0
theorem op_ownEqM (c : C8.Met X.prog X.w X.K X.mg X.base k C "__eq__" sp []) (hr : Room j X.A) (hk : k ≤ j) : OpR X (compareOp .Eq) (rOwn C sp C8.E0) := by
  obtain ⟨f, S, F⟩ := Met.raw c
  exact op_ownCmp (fun _ _ => rfl) S F (hr.mono hk) C8.pass0
theorem op_ownLeM (c : C8.Met X.prog X.w X.K X.mg X.base k C "__le__" sp []) (hr : Room j X.A) (hk : k ≤ j) : OpR X (compareOp .LtE) (rOwn C sp C8.E0) := by
  obtain ⟨f, S, F⟩ := Met.raw c
  exact op_ownCmp (fun _ _ => rfl) S F (hr.mono hk) C8.pass0
theorem op_ownLtM (c : C8.Met X.prog X.w X.K X.mg X.base k C "__lt__" sp []) (hr : Room j X.A) (hk : k ≤ j) : OpR X (compareOp .Lt) (rOwn C sp C8.E0) := by
  obtain ⟨f, S, F⟩ := Met.raw c
  exact op_ownCmp (fun _ _ => rfl) S F (hr.mono hk) C8.pass0
theorem op_ownGeM (c : C8.Met X.prog X.w X.K X.mg X.base k C "__ge__" sp []) (hr : Room j X.A) (hk : k ≤ j) : OpR X (compareOp .GtE) (rOwn C sp C8.E0) := by
  obtain ⟨f, S, F⟩ := Met.raw c
  exact op_ownCmp (fun _ _ => rfl) S F (hr.mono hk) C8.pass0
theorem op_ownGtM (c : C8.Met X.prog X.w X.K X.mg X.base k C "__gt__" sp []) (hr : Room j X.A) (hk : k ≤ j) : OpR X (compareOp .Gt) (rOwn C sp C8.E0) := by
  obtain ⟨f, S, F⟩ := Met.raw c
  exact op_ownCmp (fun _ _ => rfl) S F (hr.mono hk) C8.pass0
theorem op_ownNeM (c : C8.Met X.prog X.w X.K X.mg X.base k C "__eq__" sp []) (N : PySem.W.findIn X.K (.ref C) "__ne__" = some (some (.builtin "object.__ne__"))) (O : PySem.W.mroIn X.K C (.type "object") = some true) (hr : Room j X.A) (hk : k + 1 ≤ j) :
    OpR X (compareOp .NotEq) (rOwnNe C sp C8.E0) := by
  obtain ⟨f, S, F⟩ := Met.raw c
  exact op_ownNe S N O F (hr.mono hk) C8.pass0
theorem op_ownInM (c : C8.Met X.prog X.w X.K X.mg X.base k C "__contains__" sp []) (hr : Room j X.A) (hk : k ≤ j) : OpR X (compareOp .In) (rOwnIn C sp C8.E0 false) := by
  obtain ⟨f, S, F⟩ := Met.raw c
  exact op_ownIn S F (hr.mono hk) C8.pass0
theorem op_ownNotInM (c : C8.Met X.prog X.w X.K X.mg X.base k C "__contains__" sp []) (hr : Room j X.A) (hk : k ≤ j) : OpR X (compareOp .NotIn) (rOwnIn C sp C8.E0 true) := by
  obtain ⟨f, S, F⟩ := Met.raw c
  exact op_ownNotIn S F (hr.mono hk) C8.pass0
theorem tru_ownM (c : C8.Met X.prog X.w X.K X.mg X.base k C "__bool__" sp []) (hr : Room j X.A) (hk : k ≤ j) : TruR X (rTru C sp C8.E0) := by
  obtain ⟨f, S, F⟩ := Met.raw c
  exact tru_own S F (hr.mono hk) C8.pass0
theorem pt_own {a : Expr} (c : C8.Met X.prog X.w X.K X.mg X.base k C "__bool__" sp []) (hr : Room j X.A) (hk : k ≤ j) (ha : PE X a ta) (he : ∀ whole, isTrue a X.env whole = (do let v ← whole; standAt a.pos; holding [v] (truthy v)) := by intro _; rfl) :
    PT X a (fun σ H Q => ta σ H fun x H' => rTru C sp C8.E0 x H' Q) := by
  refine ⟨fun pins s σ H Q I hw => ?_⟩
  refine isTrue_plain (thn (ha.run pins s σ H _ I hw) fun v s1 ⟨x, H1, I1, r1, q1⟩ => ?_) (he _)
  exact tru_ownM c hr hk pins s1 σ H1 x v Q I1 r1 q1
theorem call_str_ownM (c : C8.Met X.prog X.w X.K X.mg X.base k C "__str__" sp []) (hr : Room j X.A) (hk : k + 1 ≤ j) : CallR X (.type "str") (rStr C sp C8.E0) := by
  obtain ⟨f, S, F⟩ := Met.raw c
  exact call_str_own S F (hr.mono hk) C8.pass0
theorem call_bool_ownM (c : C8.Met X.prog X.w X.K X.mg X.base k C "__bool__" sp []) (hr : Room j X.A) (hk : k + 1 ≤ j) : CallR X (.type "bool") (rBool C sp C8.E0) := by
  obtain ⟨f, S, F⟩ := Met.raw c
  exact call_bool_own S F (hr.mono hk) C8.pass0
/-! ### an attribute as a target -/
def gFld (K : PySem.W.Frag) (to : TE) (f : Str) : TG := fun v σ H Q => to σ H fun x H1 => ∃ a C dx fs, x = .ref a ∧ H1 a = some (.ins C dx fs) ∧ Cls K C ∧ NoAttr K C f ∧ fs.length < 1000 ∧ Q σ (upd H1 a (.ins C dx (putF f v fs)))
theorem pg_fld {f : Str} (ho : PE X o ta)
    (ha : ∀ v, assign (.Attribute o f pos) X.env v = (do
      let ov ← holding [v] (eval o X.env)
      standAt pos.atName
      holding [v, ov] (setAttr ov f v)
      release [v, ov] []) := by intro _; rfl) : PG X (.Attribute o f pos) (gFld X.K ta f) := by
  refine ⟨fun pins s σ H v u Q I r h => ?_⟩
  rw [ha]
  refine wpAny_bind (wpAny_holding (thn (ho.run pins s σ H _ I h) fun ov s1 ⟨x, H1, I1, r1, a, C, dx, fs, ex, ea, c, n, l, q⟩ => ?_))
  subst ex
  obtain rfl : ov = Value.ref a := r1
  refine wpAny_bind (wpAny_standAt (wpAny_bind (wpAny_holding (setattr_ok I1 ea c n l r fun s3 I3 => ?_))))
  exact wpAny_release ⟨σ, _, I3, q⟩
/-! ### classmethods -/
structure CMt (P : Program) (w : World) (K : PySem.W.Frag) (mg : Str → Option Value) (base : Heap) (k : Nat) (C : Addr) (m : Str) (sp : Sp) : Prop where
  ex : ∃ (mc : Value) (p g : Addr), ClX.CRead K C mc ∧ ClX.CMet K C mc m p g ∧ FnR P w K mg base C8.CX0 k g sp
theorem pe_cm {C : Addr} (c : CMt X.prog X.w X.K X.mg X.base k C m sp) (hr : Room j X.A) (hk : k ≤ j) (he : PE X o ta) (ha : PA X (e :: es) t) {pl : Sem Bool}
    (hst : starEach (e :: es) X.env = (false, eval e X.env) :: starEach es X.env := by rfl) (hpl : (backTo pos (starEach es X.env)).any (·.1) = false := by rfl)
    (ht : eval (.Call (.Attribute o m apos) (e :: es) [] pos) X.env = (do
      let ov ← eval o X.env
      standAt apos.atName
      let (f, first) ← holding [ov] (getMethod ov m pl)
      callWith pos f first (backTo pos (starEach (e :: es) X.env)) (backToKw pos (keywordEach [] X.env))) := by rfl) :
    PE X (.Call (.Attribute o m apos) (e :: es) [] pos) (ClX.tCMeth C sp C8.E0 ta t) := by
  obtain ⟨mc, p, g, r, cm, F⟩ := c.ex
  exact ClX.pe_cmeth (pl := pl) he r cm F (hr.mono hk) C8.pass0 ha hst hpl ht
theorem pe_cm0 {C : Addr} (c : CMt X.prog X.w X.K X.mg X.base k C m sp) (hr : Room j X.A) (hk : k ≤ j) (he : PE X o ta) {pl : Sem Bool}
    (ht : eval (.Call (.Attribute o m apos) [] [] pos) X.env = (do
      let ov ← eval o X.env
      standAt apos.atName
      let (f, first) ← holding [ov] (getMethod ov m pl)
      callWith pos f first (backTo pos (starEach [] X.env)) (backToKw pos (keywordEach [] X.env))) := by rfl) :
    PE X (.Call (.Attribute o m apos) [] [] pos) (ClX.tCMeth C sp C8.E0 ta tNil) := by
  obtain ⟨mc, p, g, r, cm, F⟩ := c.ex
  refine ⟨fun pins s σ H Q I h => ?_⟩
  refine PySem.W.methodCall_KW (pl := pl) (thn (he.run pins s σ H _ I h) fun u s1 ⟨x, H1, I1, rx, ex, q⟩ => ?_) ht
  subst ex
  obtain rfl : u = Value.ref C := rx
  refine ClX.getmethcm_ok I1 r cm fun s2 I2 => ?_
  exact PySem.W.callWith_M0 (first := []) ⟨ClX.pin_at I2, I2.kIn⟩ cm.fi (ClX.run_cm (us := []) (vs := []) F (hr.mono hk) C8.pass0 I2 .nil q)
end
end Od
end
section
set_option Elab.async false
set_option linter.all false
set_option maxRecDepth 100000
set_option maxHeartbeats 2000000
/-! rows of signs as texts; what the text has written; short rules -/
namespace Od
open PySem PySem.Spec PyProof.Rows L2 Day
/-! ### rows as texts -/
def sg (b : Bool) : Nat := if b then 49 else 48
def rowS (l : List Bool) : Str := SX.S (l.map sg)
theorem rowS_len (l : List Bool) : (rowS l).length = l.length := by
  unfold rowS
  rw [SX.S_len, List.length_map]
theorem rowS_cat (a b : List Bool) : rowS a ++ rowS b = rowS (a ++ b) := by
  unfold rowS
  rw [SX.S_cat, List.map_append]
theorem sg_inj {a b : Bool} (h : sg a = sg b) : a = b := by cases a <;> cases b <;> first | rfl | (revert h; decide)
theorem rowS_inj {a b : List Bool} (h : rowS a = rowS b) : a = b := by
  have := SX.S_inj h
  revert b
  induction a with
  | nil =>
    intro b _ h
    cases b with
    | nil => rfl
    | cons x b => simp at h
  | cons x a ih =>
    intro b _ h
    cases b with
    | nil => simp at h
    | cons y b =>
      simp only [List.map_cons, List.cons.injEq] at h
      rw [sg_inj h.1, ih (b := b) (congrArg SX.S h.2) h.2]
theorem rowS_dec (a b : List Bool) : decide (V.str (rowS a) = V.str (rowS b)) = decide (a = b) := by
  by_cases h : a = b
  · subst h; simp
  · rw [decide_eq_false h, decide_eq_false]
    intro e
    exact h (rowS_inj (V.str.inj e))
theorem rowS_nil : rowS [] = ("" : Str) := by decide +kernel
theorem rowS_0 : rowS [false] = ("0" : Str) := by decide +kernel
theorem rowS_1 : rowS [true] = ("1" : Str) := by decide +kernel
theorem rowS_tl (l : List Bool) : (rowS l).cps.toList = l.map sg := rfl
theorem rowS_from (l : List Bool) (i : Nat) (h : i ≤ l.length) : cutS (rowS l) (some (i : Int)) none = rowS (l.drop i) := by
  refine TL.ext_tl ?_
  show (((rowS l).cps.toList.drop (HT.sIx (rowS l).length 0 (some (i : Int)))).take (HT.sIx (rowS l).length (rowS l).length none - HT.sIx (rowS l).length 0 (some (i : Int)))) = (l.drop i).map sg
  rw [HT.sIx_nat, HT.sIx_none, rowS_tl, rowS_len, Nat.min_eq_left h, List.map_drop]
  apply List.take_of_length_le
  rw [List.length_drop, List.length_map]
  exact Nat.le_refl _
theorem rowS_to (l : List Bool) (i : Nat) (h : i ≤ l.length) : cutS (rowS l) none (some (i : Int)) = rowS (l.take i) := by
  refine TL.ext_tl ?_
  show (((rowS l).cps.toList.drop (HT.sIx (rowS l).length 0 none)).take (HT.sIx (rowS l).length (rowS l).length (some (i : Int)) - HT.sIx (rowS l).length 0 none)) = (l.take i).map sg
  rw [HT.sIx_nat, HT.sIx_none, rowS_tl, rowS_len, Nat.min_eq_left h, List.drop_zero, Nat.sub_zero, List.map_take]
theorem rowS_mid (l : List Bool) (i j : Nat) (h : i ≤ j) (hj : j ≤ l.length) : cutS (rowS l) (some (i : Int)) (some (j : Int)) = rowS ((l.drop i).take (j - i)) := by
  refine TL.ext_tl ?_
  show (((rowS l).cps.toList.drop (HT.sIx (rowS l).length 0 (some (i : Int)))).take (HT.sIx (rowS l).length (rowS l).length (some (j : Int)) - HT.sIx (rowS l).length 0 (some (i : Int)))) = ((l.drop i).take (j - i)).map sg
  rw [HT.sIx_nat, HT.sIx_nat, rowS_tl, rowS_len, Nat.min_eq_left (show i ≤ l.length by omega), Nat.min_eq_left hj, List.map_take, List.map_drop]
theorem rowS_mul (l : List Bool) (n : Nat) : Txt.mul (rowS l) (n : Int) = rowS (List.replicate n l).flatten := by
  refine TL.ext_tl ?_
  show (Txt.mul (rowS l) (n : Int)).cps.toList = (List.replicate n l).flatten.map sg
  rw [mul_tl, rowS_tl]
  induction n with
  | zero => rfl
  | succ n ih => rw [List.replicate_succ, List.flatten_cons, ih, List.replicate_succ, List.flatten_cons, List.map_append]
theorem rowS_rev (l : List Bool) : revS (rowS l) = rowS l.reverse := by
  refine TL.ext_tl ?_
  show (rowS l).cps.toList.reverse = l.reverse.map sg
  rw [rowS_tl, List.map_reverse]
theorem rowS_at {l : List Bool} {i : Nat} (h : i < l.length) : atI (rowS l).cps.toList (i : Int) = some (sg (l.getD i false)) := by
  apply atI_nat
  rw [rowS_tl, List.getElem?_map, List.getElem?_eq_getElem h, List.getD_eq_getElem?_getD, List.getElem?_eq_getElem h]
  rfl
/-- the sign at a place, cyc's way -/
theorem rowS_cyc {l : List Bool} (h : l ≠ []) (z : Int) : atI (rowS l).cps.toList (z % (l.length : Int)) = some (sg (cyc l z)) := by
  have hl := prim_len h
  have m0 := Int.emod_nonneg z (show (l.length : Int) ≠ 0 by omega)
  have m1 := Int.emod_lt_of_pos z (show (0 : Int) < l.length by omega)
  have := rowS_at (l := l) (i := (z % (l.length : Int)).toNat) (by omega)
  rw [Int.toNat_of_nonneg m0] at this
  exact this
/-- .. from behind: row[-1 - k % len(row)] -/
theorem rowS_back {l : List Bool} (h : l ≠ []) (k : Int) : atI (rowS l).cps.toList (-1 - k % (l.length : Int)) = some (sg (cyc l (-1 - k))) := by
  have hl := prim_len h
  have m0 := Int.emod_nonneg k (show (l.length : Int) ≠ 0 by omega)
  have m1 := Int.emod_lt_of_pos k (show (0 : Int) < l.length by omega)
  have e : (-1 - k) % (l.length : Int) = (l.length : Int) - 1 - k % (l.length : Int) := by
    have e1 : (-1 - k) % (l.length : Int) = ((l.length : Int) - 1 - k % (l.length : Int)) % (l.length : Int) := by
      have q := Int.mul_ediv_add_emod k (l.length : Int)
      rw [show (l.length : Int) - 1 - k % (l.length : Int) = -1 - k + (1 + k / (l.length : Int)) * (l.length : Int) by
        rw [Int.add_mul, Int.one_mul, Int.mul_comm (k / (l.length : Int))]
        omega]
      rw [Int.add_mul_emod_self_right]
    rw [e1, Int.emod_eq_of_lt (by omega) (by omega)]
  have h2 := rowS_cyc h (-1 - k)
  rw [e] at h2
  unfold atI at h2 ⊢
  have hn : (rowS l).cps.toList.length = l.length := by rw [rowS_tl, List.length_map]
  rw [hn] at h2 ⊢
  have e3 : ixN l.length (-1 - k % (l.length : Int)) = ixN l.length ((l.length : Int) - 1 - k % (l.length : Int)) := by
    unfold ixN
    rw [if_neg (by omega), if_pos (by omega), if_pos (by omega), if_pos (by omega)]
    congr 1
    omega
  rw [e3]
  exact h2
theorem sgn_dec (a b : Bool) : decide (V.str ⟨#[sg a]⟩ = V.str ⟨#[sg b]⟩) = decide (a = b) := by cases a <;> cases b <;> decide +kernel
def bi (b : Bool) : Int := if b then 1 else 0
theorem int_sgn (b : Bool) : intText? (⟨#[sg b]⟩ : Str) = some (bi b) := by cases b <;> decide +kernel
end Od
end
section
set_option Elab.async false
set_option linter.all false
set_option maxRecDepth 100000
set_option maxHeartbeats 2000000
set_option autoImplicit false
/-! what every law's text has in common: names, heaps that grow, comprehensions, defs by their places -/
namespace Od
open PySem PySem.Spec PyProof.Rows L2 C8 Day
/-- names that the text leaves to the built-ins -/
structure Txt (K : PySem.W.Frag) (mg : Str → Option Value) : Prop where
  b_len : mg "len" = none
  b_abs : mg "abs" = none
  b_int : mg "int" = none
  b_str : mg "str" = none
  b_min : mg "min" = none
  b_max : mg "max" = none
  b_range : mg "range" = none
  b_all : mg "all" = none
  b_any : mg "any" = none
  b_isinstance : mg "isinstance" = none
  b_bool : mg "bool" = none
  b_list : mg "list" = none
  b_enumerate : mg "enumerate" = none
  b_sorted : mg "sorted" = none
  b_dict : mg "dict" = none
  b_repr : mg "repr" = none
  b_tuple : mg "tuple" = none
  b_zip : mg "zip" = none
  b_sum : mg "sum" = none
  b_reversed : mg "reversed" = none
/-- a def of the module, its parameters -/
def DefOf (K : PySem.W.Frag) (mg : Str → Option Value) (x : Str) (st : Stmt) (ps : List Str) : Prop := ∃ f fd, Def K mg x st f fd ∧ Binds K fd ps []
/-- what stood stands -/
def Le (H H' : Hp) : Prop := ∀ a o, H a = some o → H' a = some o
theorem Le.refl {H : Hp} : Le H H := fun _ _ h => h
theorem Le.trans {H H1 H2 : Hp} (a : Le H H1) (b : Le H1 H2) : Le H H2 := fun x o h => b x o (a x o h)
theorem Le.new {H : Hp} {p : Addr} {o : HO} (h : H p = none) : Le H (upd H p o) := fun a u e => by
  by_cases c : a = p
  · subst c; rw [h] at e; cases e
  · unfold upd; rw [if_neg c]; exact e
theorem Le.upd {H H' : Hp} {p : Addr} {o : HO} (l : Le H H') (h : H p = none) : Le H (upd H' p o) := fun a u e => by
  by_cases c : a = p
  · subst c; rw [h] at e; cases e
  · unfold L2.upd; rw [if_neg c]; exact l a u e
theorem Le.none {H H' : Hp} {p : Addr} (l : Le H H') (h : H' p = none) : H p = none := by
  cases e : H p with
  | none => rfl
  | some o => rw [l p o e] at h; cases h
theorem upd_self {H : Hp} {p : Addr} {o : HO} : upd H p o p = some o := by unfold upd; rw [if_pos rfl]
theorem upd_ne {H : Hp} {p q : Addr} {o : HO} (h : q ≠ p) : upd H p o q = H q := by unfold upd; rw [if_neg h]
/-! ### lists made by comprehensions -/
def LeX (D : Addr) (H H' : Hp) : Prop := ∀ a o, a ≠ D → H a = some o → H' a = some o
theorem Le.x {D : Addr} {H H' : Hp} (l : Le H H') : LeX D H H' := fun a o _ h => l a o h
theorem LeX.upd {D : Addr} {o : HO} {H H' : Hp} (l : LeX D H H') : LeX D H (upd H' D o) := fun a u c h => by rw [upd_ne c]; exact l a u c h
theorem LeX.le {D : Addr} {H H' : Hp} (l : LeX D H H') (h : H D = none) : Le H H' := fun a o e => l a o (fun c => by subst c; rw [h] at e; cases e) e
/-- a comprehension whose turns leave the heap as it was, or with more in it: R tells what a turn gives (none: not taken) -/
theorem lc_walk {J : It} {n : Nat} {G : Hp → Prop} {Y : Nat → Hp → V → Hp → Prop} (w : Walk J n G Y) {g : TG} {tt : TT} {te : TE} {vs : List Nat} {σ : L2.St} {H1 : Hp} {D : Addr} {Qd : Hp → Prop} (hD : H1 D = none) (hn : n ≤ sizeLine)
    (hG : ∀ H, Le H1 H → G H) (hY : ∀ i H x H', Y i H x H' → Le H H') (R : Nat → Option V → Hp → Prop) (hR : ∀ i r H H', LeX D H H' → (∃ acc, H D = some (.lst acc)) → R i r H → R i r H')
    (hs : ∀ i x H H', i < n → Le H1 H → (∃ acc, H D = some (.lst acc)) → Y i H x H' → ∀ N : Option V → Hp → Prop, (∀ r H2, Le H' H2 → R i r H2 → N r H2) → g x (wipe σ vs) H' fun σ2 H2 => wipe σ2 vs = wipe σ vs ∧ tt σ2 H2 fun b H3 => if b = true then te σ2 H3 fun y H4 => N (some y) H4 else N none H3)
    (hd : ∀ H (rs : List (Option V)), Le H1 H → rs.length = n → (∀ i r, rs[i]? = some r → R i r H) → H D = some (.lst (rs.filterMap id)) → Qd H) :
    ∃ W : Nat → Nat → Hp → Prop, (∃ m, W 0 m (upd H1 D (.lst []))) ∧ ∀ i m H, W i m H →
      (J.stop i H ∧ Qd H) ∨ (J.go i H ∧ ∃ Nx : Hp → Prop, (∀ H', Nx H' → ∃ m', m' < m ∧ W (i + 1) m' H') ∧ ∀ x H', J.yld i H x H' → g x (wipe σ vs) H' fun σ2 H2 => wipe σ2 vs = wipe σ vs ∧ tt σ2 H2 fun b H3 =>
        if b = true then te σ2 H3 fun y H4 => ∃ acc, H4 D = some (.lst acc) ∧ acc.length < sizeLine ∧ Nx (upd H4 D (.lst (acc ++ [y]))) else Nx H3) := by
  refine lc_it w (fun i H => Le H1 H ∧ ∃ rs : List (Option V), rs.length = i ∧ (∀ j r, rs[j]? = some r → R j r H) ∧ H D = some (.lst (rs.filterMap id))) ⟨Le.new hD, [], rfl, fun j r h => by simp at h, upd_self⟩ (fun i H _ p => hG H p.1) ?_ ?_
  · rintro i x H H' hi ⟨le, rs, hl, hr, e⟩ hy
    have l2 := hY i H x H' hy
    have eD : H' D = some (.lst (rs.filterMap id)) := l2 D _ e
    have st := hs i x H H' hi le ⟨_, e⟩ hy (fun r H4 => match r with
      | some y => ∃ acc, H4 D = some (.lst acc) ∧ acc.length < sizeLine ∧ (Le H1 (upd H4 D (.lst (acc ++ [y]))) ∧ ∃ rs' : List (Option V), rs'.length = i + 1 ∧ (∀ j r, rs'[j]? = some r → R j r (upd H4 D (.lst (acc ++ [y])))) ∧ upd H4 D (.lst (acc ++ [y])) D = some (.lst (rs'.filterMap id)))
      | none => Le H1 H4 ∧ ∃ rs' : List (Option V), rs'.length = i + 1 ∧ (∀ j r, rs'[j]? = some r → R j r H4) ∧ H4 D = some (.lst (rs'.filterMap id))) ?_
    · exact st
    · intro r H2 l3 hr2
      have eD2 := l3 D _ eD
      have lenf : (rs.filterMap id).length ≤ i := by rw [← hl]; exact List.length_filterMap_le _ _
      cases r with
      | none =>
        refine ⟨le.trans (l2.trans l3), rs ++ [none], by simp [hl], fun j r hj => ?_, by simpa using eD2⟩
        by_cases c : j < rs.length
        · rw [List.getElem?_append_left c] at hj
          exact hR j r H H2 (l2.trans l3).x ⟨_, e⟩ (hr j r hj)
        · have : j = i := by
            have := (List.getElem?_eq_some_iff.mp hj).1
            simp [hl] at this; omega
          subst this
          rw [List.getElem?_append_right (by omega), hl] at hj
          simp at hj
          subst hj
          exact hr2
      | some y =>
        refine ⟨_, eD2, by omega, (le.trans (l2.trans l3)).upd hD, rs ++ [some y], by simp [hl], fun j r hj => ?_, by rw [upd_self]; simp⟩
        have lx : LeX D H2 (upd H2 D (.lst (rs.filterMap id ++ [y]))) := (Le.refl).x.upd
        by_cases c : j < rs.length
        · rw [List.getElem?_append_left c] at hj
          exact hR j r H2 _ lx ⟨_, eD2⟩ (hR j r H H2 (l2.trans l3).x ⟨_, e⟩ (hr j r hj))
        · have : j = i := by
            have := (List.getElem?_eq_some_iff.mp hj).1
            simp [hl] at this; omega
          subst this
          rw [List.getElem?_append_right (by omega), hl] at hj
          simp at hj
          subst hj
          exact hR _ _ H2 _ lx ⟨_, eD2⟩ hr2
  · rintro H ⟨le, rs, hl, hr, e⟩
    exact hd H rs le hl hr e
/-- .. whose values are told by the turn alone -/
theorem lc_pure {J : It} {n : Nat} {G : Hp → Prop} {Y : Nat → Hp → V → Hp → Prop} (w : Walk J n G Y) {g : TG} {tt : TT} {te : TE} {vs : List Nat} {σ : L2.St} {H1 : Hp} {D : Addr} {Qd : Hp → Prop} (hD : H1 D = none) (hn : n ≤ sizeLine)
    (hG : ∀ H, Le H1 H → G H) (hY : ∀ i H x H', Y i H x H' → Le H H') (el : Nat → Option V)
    (hs : ∀ i x H H', i < n → Le H1 H → Y i H x H' → ∀ N : Option V → Hp → Prop, (∀ H2, Le H' H2 → N (el i) H2) → g x (wipe σ vs) H' fun σ2 H2 => wipe σ2 vs = wipe σ vs ∧ tt σ2 H2 fun b H3 => if b = true then te σ2 H3 fun y H4 => N (some y) H4 else N none H3)
    (hd : ∀ H, Le H1 H → H D = some (.lst ((List.range n).filterMap el)) → Qd H) :
    ∃ W : Nat → Nat → Hp → Prop, (∃ m, W 0 m (upd H1 D (.lst []))) ∧ ∀ i m H, W i m H →
      (J.stop i H ∧ Qd H) ∨ (J.go i H ∧ ∃ Nx : Hp → Prop, (∀ H', Nx H' → ∃ m', m' < m ∧ W (i + 1) m' H') ∧ ∀ x H', J.yld i H x H' → g x (wipe σ vs) H' fun σ2 H2 => wipe σ2 vs = wipe σ vs ∧ tt σ2 H2 fun b H3 =>
        if b = true then te σ2 H3 fun y H4 => ∃ acc, H4 D = some (.lst acc) ∧ acc.length < sizeLine ∧ Nx (upd H4 D (.lst (acc ++ [y]))) else Nx H3) := by
  refine lc_walk w hD hn hG hY (fun i r _ => r = el i) (fun _ _ _ _ _ _ h => h) (fun i x H H' hi le _ hy N hN => hs i x H H' hi le hy N fun H2 l => hN _ H2 l rfl) fun H rs le hl hr e => hd H le ?_
  have : rs = (List.range n).map el := by
    apply List.ext_getElem?
    intro i
    by_cases c : i < rs.length
    · rw [List.getElem?_eq_getElem c, List.getElem?_map, List.getElem?_range (by omega)]
      exact congrArg some (hr i _ (List.getElem?_eq_getElem c))
    · rw [List.getElem?_eq_none (by omega), List.getElem?_eq_none (by simp; omega)]
  rw [e, this, List.filterMap_map]
  rfl
theorem yfn_le {f : Nat → V} : ∀ i H x H', YFn f i H x H' → Le H H' := fun _ _ _ _ h => by rw [h.1]; exact .refl
theorem yat_le {xs : List V} : ∀ i H x H', YAt xs i H x H' → Le H H' := fun _ _ _ _ h => by rw [h.1]; exact .refl
/-- a method of a class: its def -/
def MetOf (K : PySem.W.Frag) (C : Addr) (m qual : Str) (st : Stmt) (ps : List Str) : Prop := ∃ f fd, Meth K C m f ∧ C8.Fun K m qual st f fd ∧ L2.Binds K fd ps []
/-- a class: its __init__ -/
def MakOf (K : PySem.W.Frag) (C : Addr) (qual : Str) (st : Stmt) (ps : List Str) : Prop := ∃ f fd, Mk K C f ∧ C8.Fun K "__init__" qual st f fd ∧ L2.Binds K fd ps []
theorem lt_put {f : Str} {v : V} {n : Nat} : ∀ {fs : List (Str × V)}, fs.length < n → (putF f v fs).length < n + 1
  | [], h => by show 1 < n + 1; have : (0 : Nat) < n := h; omega
  | (g, x) :: r, h => by
    have h' : r.length + 1 < n := h
    unfold putF
    split
    · show r.length + 1 < n + 1; omega
    · show (putF f v r).length + 1 < n + 1
      have := lt_put (f := f) (v := v) (n := n - 1) (fs := r) (by omega)
      omega
/-- a classmethod: its def -/
def ClmOf (K : PySem.W.Frag) (C : Addr) (m qual : Str) (st : Stmt) (ps : List Str) : Prop := ∃ (mc : Value) (p g : Addr) (fd : FuncData), ClX.CRead K C mc ∧ ClX.CMet K C mc m p g ∧ C8.Fun K m qual st g fd ∧ L2.Binds K fd ps []
theorem cmt0 {P : Program} {w : World} {K : PySem.W.Frag} {mg : Str → Option Value} {base : Heap} {m qual : Str} {C p g : Addr} {mc : Value} {st : Stmt} {fd : FuncData} {N ps : List Str} {k : Nat} {sp : Sp} (r : ClX.CRead K C mc) (cm : ClX.CMet K C mc m p g) (F : C8.Fun K m qual st g fd) (b : L2.Binds K fd ps []) (S : FnScope N ps (C8.fnScope st)) (len : ∀ vs H Q E, sp vs H Q E → vs.length = ps.length)
    (hbody : ∀ (cdv : Value) (A : Around) (outer : List Env) (s : Shared) (H : Hp) (vs : List V) (Q : VK) (E : XK), Room k (A.deeper (envOfC qual (C8.fnScope st) s.heap.objs.size g cdv)) → sp vs H Q E →
      ∃ t, PSs (cxOf C8.CX0 P w K mg base N qual (C8.fnScope st) g cdv A outer s H E).nox (C8.fnBody st) t ∧ t { nx := fun _ H' => Q .non H', rt := Q } (L2.start N vs) H) : CMt P w K mg base (k + 1) C m sp :=
  ⟨mc, p, g, r, cm, ((C8.fn0 F S len hbody).raw b .nil).imp fun vs H Q E h => by rw [List.append_nil]; exact h⟩
theorem szl {l : List Bool} (h : l.length ≤ 4194304) : (rowS l).length ≤ sizeLine := by rw [rowS_len]; have : sizeLine = 16777216 := sizeLine_eq; omega
theorem posl {l : List Bool} (h : l ≠ []) : 0 < ((rowS l).length : Int) := by rw [rowS_len]; have := prim_len h; omega
theorem le_szl (n : Nat) (h : n ≤ 16777216) : n ≤ sizeLine := by have : sizeLine = 16777216 := sizeLine_eq; omega
theorem le_szl' {n : Nat} (h : n < 16777216) : n < sizeLine := by have : sizeLine = 16777216 := sizeLine_eq; omega
theorem ne_of_new {H : Hp} {a b : Addr} {o : HO} (h : H a = none) (e : H b = some o) : b ≠ a := fun c => by rw [c, h] at e; cases e
theorem ne_of_new' {H : Hp} {a b : Addr} (h : H a = none) (e : ∃ kvs, H b = some (.dK kvs)) : a ≠ b := fun c => by
  obtain ⟨kvs, e⟩ := e
  rw [← c, h] at e
  cases e
end Od
end
section
set_option Elab.async false
set_option linter.all false
namespace Od
open PySem L2
def top (i : Nat) : Stmt := PySem.Challenge.pw_onewaydays_k70_errors.main.body.getD i (.Pass ⟨0, 0, 0, 0⟩)
end Od
end
section
set_option Elab.async false
set_option linter.all false
set_option maxRecDepth 100000
set_option maxHeartbeats 4000000
set_option autoImplicit false
/-! own exception classes over ValueError, whose __init__ says super().__init__(..): made, read, asked by isinstance, raised -/
namespace Od
open PySem PySem.Spec PyProof.Rows L2
/-! ### the wrapper that super().__init__ gives, called -/
section
open PySem.W PySem.Calls
variable {prog : Program} {w : World} {A : Around} {E : Value → Shared → Prop} {h : Heap} {g : Array GenState} {d : Drawn} {t : Nat} {os : OsState}
variable {nm q : Str} {C N : Addr} {bs bm : List Value} {hdct : Bool} {sn : List Str} {sub : List Value} {ab : Bool} {col : Option Bool} {dd : Option Addr} {k0 k1 k2 k3 k5 : Option Value}
theorem call_mwVE {u e t0 : Addr} {rest : List Value} {Q : Value → Shared → Prop}
    (hC : h.get? C = some (excClassObj nm q C N bs bm hdct sn sub ab col dd k0 k1 k2 k3 k5 "ValueError.__new__")) (he : h.get? e = some (HandSPX.excO C t0)) (hu : h.get? u = some (kxs_mw "ValueError.__init__" e)) (hrest : rest.length ≤ sizeLine)
    (hq : ∀ h' t1, (∀ b o, b ≠ e → h.get? b = some o → h'.get? b = some o) → h'.get? e = some (HandSPX.excO C t1) → Q .none ⟨h', g, d, t, os⟩) :
    wpAny (model prog w) A (call (.ref u) rest) Q E ⟨h, g, d, t, os⟩ := by
  refine wpAny_call (codeAny_of_tree ?_)
  show wpAny _ A.in1 (callAny (.ref u) ⟨rest, []⟩) _ _ _
  simp only [callAny]
  refine wpAny_bind (wpAny_load hu ?_)
  simp only [kxs_mw, show (Value.type "method-wrapper" == Value.type "method" || Value.type "method-wrapper" == Value.type "builtin_function_or_method" || Value.type "method-wrapper" == Value.type "method-wrapper") = true by decide, if_true]
  refine W.KFB.if_so (by decide) ?_
  refine wpAny_bind (ESX.check_bound F.excBase_ValueError hC he rfl ?_)
  refine wpAny_bind (wpAny_pure (wpAny_pure ?_))
  refine ⟨Code.quiet_builtin _ (by decide +kernel), codeAny_builtin F.excBase_ValueError.initEntry ?_⟩
  rw [Around.under_plainId F.excBase_ValueError.init.plain _]
  wp_walk
  refine hq _ h.objs.size (fun b o hb ho => ?_) ?_
  · rw [Heap.get?_update_other _ _ (Ne.symm hb)]
    exact Heap.get?_push_of_some _ ho
  · rw [Heap.get?_update_self _ (Heap.get?_push_of_some _ he) rfl]
    rfl
end
/-! ### what the written part says of such a class -/
structure SupC (K : PySem.W.Frag) (C : Addr) : Prop where
  ox : OexC K C
  xf : XfC K C
  ec : ExcC K C
  mro : PySem.W.mroIn K C (.ref C) = some true
  sup : PySem.W.ks_superIn K C C "__init__" = some (some (.builtin "ValueError.__init__"))
  val : PySem.W.subIn K (.ref C) (.type "ValueError") = some true
  opq : PySem.W.nsIn K cStatics "thirdparty.any" = some none
/-- its __init__, a def that keeps its class in a cell -/
structure SupFun (K : PySem.W.Frag) (file : Str) (C : Addr) (qual : Str) (args : Arguments) (body : List Stmt) (scope : Scope) (f : Addr) (fd : FuncData) : Prop where
  ex : ∃ (oc : Value) (od : Option Addr) (doc pm ct : Value) (osl : Array (Option Value)) (cc : Addr) (ccl : Value) (ccd : Option Addr) (ccs : Array (Option Value)) (cd : Addr) (kcl : Value) (kcd : Option Addr) (kcs : Array (Option Value)) (vs : Array Value) (tf : Tok) (kV : Value) (an : Option Addr),
    fd = PySem.W.fnX "__init__" qual args body scope [("__class__", cc)] .none kV doc pm an (.ref cd) ct ∧ K.lookup f = some ⟨oc, od, .func fd, osl⟩ ∧ PySem.W.codeIn K (.ref cd) qual = true ∧
      K.lookup cc = some ⟨ccl, ccd, .cell (some (.ref C)), ccs⟩ ∧ K.lookup cd = some ⟨kcl, kcd, .fields vs, kcs⟩ ∧ vs[2]? = some (.str file tf)
/-- what the program says of the name super -/
structure SupP (P : Program) (file : Str) : Prop where
  hfile : ((P.main.file : Str) == file) = true
  htop : (P.main.scope.names.lookup ("super" : Str)).isSome = false
/-- what the def's scope says -/
structure SupS (scope : Scope) (args : Arguments) (x : Str) : Prop where
  su : scope.names.lookup ("super" : Str) = some .globalImplicit
  cl : scope.names.lookup ("__class__" : Str) = some .free
  lo : scope.names.lookup x = some .local
  hd : ∃ ar : Arg, (args.posonlyargs ++ args.args).head? = some ar ∧ ar.arg = x
abbrev supNF (qual : Str) (args : Arguments) (scope : Scope) (cc cd : Addr) : NdefX.NF := ⟨"__init__", qual, args, [], scope, [("__class__", cc)], cd⟩
/-- super().__init__(e), then the rest -/
def tSup (C : Addr) (ta : TA) (tr : TS) : TS := fun D σ H => ∃ a : Addr, σ[0]? = some (some (.ref a)) ∧ H a = some (exo a C none) ∧ ta σ H fun vs H1 => vs.length ≤ 1000 ∧ H1 a = some (exo a C none) ∧ tr D σ H1
/-- how the call is evaluated -/
def SupEv (e : Expr) (p0 p1 p2 p3 : Pos) (env : Env) : Prop := ∃ pl : Sem Bool, eval (.Call (.Attribute (.Call (.Name "super" p0) [] [] p1) "__init__" p2) [e] [] p3) env = (do
      let ov ← attributeBase (.Call (.Name "super" p0) [] [] p1) "__init__" env (eval (.Call (.Name "super" p0) [] [] p1) env)
      standAt p2.atName
      let (f, first) ← holding [ov] (getMethod ov "__init__" pl)
      callWith p3 f first (backTo p3 (starEach [e] env)) [])
theorem Inv.addPin {X : Cx} {pins : List (Addr × Obj)} {σ : L2.St} {H : Hp} {s : Shared} {p : Addr × Obj} (I : Inv X pins σ H s) (h : s.heap.get? p.1 = some p.2 ∧ H p.1 = none ∧ p.1 ≠ X.env.locals ∧ p.1 ∉ X.fs ∧ ∀ v, p.2.data ≠ .cell v) : Inv X (p :: pins) σ H s :=
  ⟨I.ok, I.os, I.bare, I.base, I.loc, I.cell, I.free, I.freeC, fun q hq => by
    rcases List.mem_append.mp hq with hq | hq
    · exact I.pin q (List.mem_append_left _ hq)
    · rcases List.mem_cons.mp hq with rfl | hq
      · exact h
      · exact I.pin q (List.mem_append_right _ hq), I.hok, I.len⟩
theorem Inv.dropPin {X : Cx} {pins : List (Addr × Obj)} {σ : L2.St} {H : Hp} {s : Shared} {p : Addr × Obj} (I : Inv X (p :: pins) σ H s) : Inv X pins σ H s :=
  ⟨I.ok, I.os, I.bare, I.base, I.loc, I.cell, I.free, I.freeC, fun q hq => by
    rcases List.mem_append.mp hq with hq | hq
    · exact I.pin q (List.mem_append_left _ hq)
    · exact I.pin q (List.mem_append_right _ (List.mem_cons_of_mem _ hq)), I.hok, I.len⟩
section
variable {P : Program} {w : World} {K : PySem.W.Frag} {mg : Str → Option Value} {base : Heap} {CX : CXT}
open PySem.W PySem.Calls in
/-- the walk from super() to the rest of the body, over any context -/
theorem sup_run {X : Cx} {C f cc cd : Addr} {fd : FuncData} {file x : Str} {e : Expr} {rest : List Stmt} {p0 p1 p2 p3 p4 : Pos} {σ : L2.St} {H : Hp} {s : Shared} {ta : TA} {tr : TS} {D : Ends} {ar : Arg} {vss : Array Value} {tf : Tok} {oc : Value} {od : Option Addr} {osl : Array (Option Value)} {ccl : Value} {ccd : Option Addr} {ccs : Array (Option Value)} {kcl : Value} {kcd : Option Addr} {kcs : Array (Option Value)} {bd : List Stmt}
    (I : Inv X [] σ H s) (SC : SupC X.K C) (hP : SupP X.prog file) (lk : X.K.lookup f = some ⟨oc, od, .func fd, osl⟩) (hcc : X.K.lookup cc = some ⟨ccl, ccd, .cell (some (.ref C)), ccs⟩) (hco : X.K.lookup cd = some ⟨kcl, kcd, .fields vss, kcs⟩) (hvs : vss[2]? = some (.str file tf))
    (su : X.env.kindOf ("super" : Str) = some .globalImplicit) (cl : X.env.kindOf ("__class__" : Str) = some .free) (lo : X.env.kindOf x = some .local) (vi : Vis X.env.scope x) (hd : (fd.params.posonlyargs ++ fd.params.args).head? = some ar) (hx : ar.arg = x)
    (ef : X.env.func = some f) (ec : X.env.code = .ref cd) (ecl : X.env.cells.lookup ("__class__" : Str) = some cc) (hN : X.N[0]? = some x) (hsu : X.mg "super" = none) (hta : PA X [e] ta) (htr : PSs X rest tr)
    (he : starEach [e] X.env = (false, eval e X.env) :: starEach [] X.env) (hme : SupEv e p0 p1 p2 p3 X.env) (hq : tSup C ta tr D σ H) :
    PySem.wpAt (model X.prog X.w) X.A (.func bd X.env) (execs (.Expr (.Call (.Attribute (.Call (.Name "super" p0) [] [] p1) "__init__" p2) [e] [] p3) p4 :: rest) X.env) (SP X [] D) X.xe s := by
  obtain ⟨a, ha0, hex, hq⟩ := hq
  obtain ⟨nm, qq, N', bs, bm, sn, sub, ab, col, dd, k0, k1, k2, k3, k5, hC, hbm⟩ := SC.ox.cls
  have hcl : clsIn X.K C = some { name := nm, bases := bs, mro := .ref C :: bm, ns := N', qualname := qq, hasDict := true, slotNames := sn, subclasses := sub, abstract := ab, collection := col, hasDel := false } := by unfold clsIn; rw [hC] <;> rfl
  obtain ⟨m, hm, hlk⟩ := id I.loc
  obtain ⟨u0, hu0, lk0⟩ := hlk 0 x (.ref a) hN ha0 vi
  obtain rfl : u0 = Value.ref a := hu0
  have hv : m x = some (.ref a) := by
    rcases lk0 with ⟨_, h⟩ | ⟨h, _⟩
    · exact h
    · rw [lo] at h
      rcases h with h | h <;> cases h
  obtain ⟨t1, hoe⟩ := exo_at I.hok hex
  obtain ⟨mb, hb1, hb2⟩ := I.mod.blt
  have KX := I.kIn
  obtain ⟨hp, g, dr, tk, os⟩ := s
  refine ks_wpAt_execs_cons ?_
  refine ks_wpAt_Expr_any ?_ (by unfold interactive; rw [I.ok.kind]; rfl)
  obtain ⟨pl, hme⟩ := hme
  refine ks_wpAt_MethodCall (pl := pl) ?_ hme
  refine ks_wpAt_super_base (env := X.env) su cl (by decide) ef (KX _ _ lk) rfl hd ec (KX _ _ hco) rfl hvs hP.hfile hP.htop ?_
  refine ks_loadName_global I.ok.kind su (loadGlobal_builtin (by rw [I.ok.glob]; exact I.mod.glob.keeps I.bk) hsu (by rw [I.ok.blt]; exact hb1.keeps I.bk) ((hb2 "super" (by decide)).trans (show bootBuiltins "super" = some (.type "super") from by first | rfl | decide +kernel | kernel_rfl)) ⟨rfl, ?_⟩)
  refine wpAny_loadName_free I.ok.kind cl ecl ⟨_, KX _ _ hcc, rfl⟩ ?_
  refine wpAny_loadName_local I.ok.kind (by rw [hx]; exact lo) hm (by rw [hx]; exact hv) ?_
  refine ks_wpAny_isType_cls (KX _ _ hC) rfl ⟨rfl, ?_⟩
  refine ks_wpAny_call_super (KX _ _ hC) rfl hoe rfl (fun c z => nomatch z) (looks_mroIn KX SC.mro) (fun h2 hso k2 => ?_)
  have I2 : Inv X [] σ H ⟨h2, g, dr, tk, os⟩ := I.kept (t' := tk) k2
  have ho2 := k2 _ _ hoe
  have J2 : InstAt h2 a _ C none := ⟨ho2, rfl, rfl, trivial⟩
  refine kxs_getMethod kxs_ValueError hso (looks_opaque I2.kIn SC.opq) (l₀ := Value.ref C :: bm) (fun A Q E s k q => wpAny_bind ((looks_clsIn I2.kIn hcl) A _ E s k (wpAny_pure q))) rfl I2.kIn (by
    have z := SC.sup
    unfold ks_superIn at z
    rw [hcl] at z
    exact z) (J2.type.andThen (looks_subIn I2.kIn SC.val)) (ks_ne I2.kIn J2 hcl) (by decide) ?_
  obtain ⟨h3, hh3⟩ : ∃ h3, h3 = h2.push (kxs_mw "ValueError.__init__" a) := ⟨_, rfl⟩
  have k3 : ∀ b o, h2.get? b = some o → h3.get? b = some o := fun b o z => by rw [hh3]; exact Heap.get?_push_of_some _ z
  have hmw : h3.get? h2.objs.size = some (kxs_mw "ValueError.__init__" a) := by rw [hh3]; exact Heap.get?_push_at rfl rfl
  rw [← hh3]
  have I3 : Inv X [(h2.objs.size, kxs_mw "ValueError.__init__" a)] σ H ⟨h3, g, dr, tk + 1, os⟩ := by
    refine Inv.addPin (I2.kept (t' := tk + 1) k3) ⟨hmw, I2.hok.fresh (Nat.le_refl _), Ne.symm (Nat.ne_of_lt I2.lt), I2.nofs (Nat.le_refl _), fun v z => nomatch z⟩
  show wpAny _ _ (callWith p3 (.ref h2.objs.size) [] (backTo p3 (starEach [e] X.env)) []) _ _ _
  rw [he]
  refine kxs_callWith (i := "ValueError.__init__") (x := a) rfl (evalArgs_plain ?_)
  have run := hta.run p3 _ _ σ H _ I3 hq
  rw [he] at run
  refine thn run fun us s4 ⟨vs, H4, I4, r4, hlv, ea, q4⟩ => ?_
  obtain ⟨hp4, _⟩ := I4.pin (h2.objs.size, kxs_mw "ValueError.__init__" a) (by simp)
  refine ⟨hp4, ?_⟩
  obtain ⟨t4, hoe4⟩ := exo_at I4.hok ea
  obtain ⟨hp5, g5, d5, tk5, os5⟩ := s4
  have hlen : us.length ≤ sizeLine := by
    rw [← Paired.length r4, sizeLine_eq]
    omega
  refine call_mwVE (I4.kIn _ _ hC) hoe4 hp4 hlen fun h6 t6 k6 hx6 => ?_
  have J := (Inv.dropPin I4).write (t' := tk5) (x := a) (e := a) (o := exo a C none) (by rw [ea]; exact True.intro) (.inl rfl) k6 ⟨_, hx6⟩ (exo_ok hx6)
  have eu : upd H4 a (exo a C none) = H4 := by
    funext b
    by_cases hb : b = a
    · rw [hb, L2.upd_same, ea]
    · rw [L2.upd_ne hb]
  rw [eu] at J
  exact PySem.wpAt_of_wpAny (htr.run [] _ σ H4 D J q4)
theorem fn_sup {k : Nat} {f C : Addr} {fd : FuncData} {file qual x : Str} {args : Arguments} {e : Expr} {rest : List Stmt} {scope : Scope} {p0 p1 p2 p3 p4 : Pos} {N ps : List Str} {sp : Sp}
    (F : SupFun K file C qual args (.Expr (.Call (.Attribute (.Call (.Name "super" p0) [] [] p1) "__init__" p2) [e] [] p3) p4 :: rest) scope f fd) (SC : SupC K C) (hP : SupP P file) (S : NdefX.NScope N ps ["__class__"] scope) (SS : SupS scope args x)
    (hx : N[0]? = some x) (hsu : mg "super" = none) (len : ∀ vs H Q E, sp vs H Q E → vs.length = ps.length)
    (hbody : ∀ (cc cd : Addr) (A : Around) (outer : List Env) (s : Shared) (H : Hp) (vs : List V) (Q : VK) (E : XK), Room k (A.deeper (NdefX.envF (supNF qual args scope cc cd) f s.heap.objs.size)) → sp vs H Q E →
      ∃ ta tr, PA (NdefX.ncx CX P w K mg base N (supNF qual args scope cc cd) f A outer s H E) [e] ta ∧ PSs (NdefX.ncx CX P w K mg base N (supNF qual args scope cc cd) f A outer s H E) rest tr ∧
        tSup C ta tr { nx := fun _ H' => Q .non H', rt := Q } (NdefX.startF N vs [none]) H)
    (he : ∀ env, starEach [e] env = (false, eval e env) :: starEach [] env := by intro _; rfl) (hme : ∀ env, SupEv e p0 p1 p2 p3 env := by intro _; exact ⟨_, rfl⟩) :
    FnOk P w K mg base CX (k + 1) f fd ps sp := by
  refine ⟨len, fun A outer s H args' us vs Q E hr e0 hb r hsp => ?_⟩
  have hl := len _ _ _ _ hsp
  obtain ⟨oc, od, doc, pm, ct, osl, cc, ccl, ccd, ccs, cd, kcl, kcd, kcs, vss, tf, kV, an, rfl, lk, hcd, hcc, hco, hvs⟩ := F.ex
  have KX : K.In s.heap := e0.mod.kin.keeps fun b o e => (e0.bs b o e).1
  have lim : s.heap.NoLimit := e0.mod.nolimit.keeps fun b o e => (e0.bs b o e).1
  refine PySem.ks_codeAny_call_defAt hr.depth (KX _ _ lk) rfl lim (PySem.W.codeRec_of KX hcd) rfl hb S.nocell (fun ⟨n, v⟩ hy => S.par n (List.of_mem_zip hy).1) (fun h₁ hns kp => ?_) S.co S.gen S.kind
  obtain ⟨ta, tr, hta, htr, hq⟩ := hbody cc cd A outer s H vs Q E (hr.deeper _) hsp
  have hb0 := e0.mod.kin _ _ hcc
  have Cx : NdefX.CellsAt [("__class__", cc)] ["__class__"] [none] s.heap H := by
    refine ⟨rfl, fun y c hy => ?_, fun y z c h1 h2 => ?_, fun i y hy => ?_⟩
    · have e1 : c = cc := by
        rw [List.lookup_cons] at hy
        split at hy
        · exact (Option.some.inj hy).symm
        · cases hy
      rw [e1]
      exact ⟨(e0.bs _ _ hb0).2, some (.ref C), _, (e0.bs _ _ hb0).1, rfl⟩
    · have key : ∀ y c, ([("__class__", cc)] : List (Str × Addr)).lookup y = some c → y = "__class__" := fun y c hy => by
        rw [List.lookup_cons] at hy
        split at hy
        · rename_i q
          exact eq_of_beq q
        · cases hy
      rw [key y c h1, key z c h2]
    · cases i with
      | zero =>
        cases hy
        exact ⟨cc, rfl, fun v hv => nomatch hv⟩
      | succ i => cases hy
  have I : Inv (NdefX.ncx CX P w K mg base N (supNF qual args scope cc cd) f A outer s H E) [] (NdefX.startF N vs [none]) H { s with heap := h₁, toks := s.toks + (ps.zip us).length } := NdefX.inv_startN S hr.hd e0 hl r Cx hns kp
  obtain ⟨ar, har, hax⟩ := SS.hd
  have run := sup_run (bd := .Expr (.Call (.Attribute (.Call (.Name "super" p0) [] [] p1) "__init__" p2) [e] [] p3) p4 :: rest) (p0 := p0) (p1 := p1) (p2 := p2) (p3 := p3) (p4 := p4) I SC hP lk hcc hco hvs SS.su SS.cl SS.lo (.inl SS.lo) har hax rfl rfl rfl hx hsu hta htr (he _) (hme _) hq
  refine PySem.ks_wpAt_mono run (fun fl s' hs => ?_) fun e s' hs => hs
  have fin : ∀ {σ' : L2.St} {H' : Hp} {v : V} {u : Value}, Inv (NdefX.ncx CX P w K mg base N (supNF qual args scope cc cd) f A outer s H E) [] σ' H' s' → L2.RelV v u → Q v H' → CE outer P w H s Q u s' :=
    fun {σ' H' v u} J rv q => ⟨v, H', J.os, J.bare, J.base, J.hok, rv, q⟩
  cases fl with
  | ret u =>
    obtain ⟨v, σ', H', J, rv, q⟩ := hs
    exact fin J rv q
  | next =>
    obtain ⟨σ', H', J, q⟩ := hs
    exact fin (v := V.non) (u := Value.none) J rfl q
  | brk =>
    obtain ⟨_, _, _, q⟩ := hs
    exact False.elim q
  | cont =>
    obtain ⟨_, _, _, q⟩ := hs
    exact False.elim q
end
end Od
end
section
set_option Elab.async false
set_option linter.all false
set_option maxRecDepth 100000
set_option maxHeartbeats 4000000
set_option autoImplicit false
/-! own exceptions: made as values, their fields read, asked by isinstance; raised -/
namespace Od
open PySem PySem.Spec PyProof.Rows L2
/-! ### made -/
/-- a class of the module with an __init__ that is walked -/
structure OMk (P : Program) (w : World) (K : PySem.W.Frag) (mg : Str → Option Value) (base : Heap) (j : Nat) (x : Str) (C : Addr) (sp : Sp) : Prop where
  sc : SupC K C
  gl : mg x = some (.ref C)
  ex : ∃ (fI : Addr) (fd : FuncData) (ps : List Str), PySem.W.findIn K (.ref C) "__init__" = some (some (.ref fI)) ∧ PySem.W.typeIn K (.ref fI) = some (.type "function") ∧ FnOk P w K mg base C8.CX0 j fI fd ps sp ∧ Binds K fd ps []
/-- C(e, ..) as a value -/
def tMkV (C : Addr) (sp : Sp) (ta : TA) : TE := fun σ H Q => ta σ H fun vs H1 => vs.length ≤ 1000 ∧ ∀ a, H1 a = none → sp (.ref a :: vs) (upd H1 a (exo a C none)) (fun v H2 => v = .non ∧ Q (.ref a) H2) fun _ _ _ => False
section
variable {X : Cx} {C : Addr} {sp : Sp} {j : Nat} {x : Str} {e : Expr} {es : List Expr} {ta : TA} {p pos : Pos}
theorem run_mkV {pins : List (Addr × Obj)} {σ : L2.St} {H1 : Hp} {s1 : Shared} {us : List Value} {vs : List V} {Q : V → Hp → Prop} (M : OMk X.prog X.w X.K X.mg X.base j x C sp) (hr : Room (j + 1) X.A) (I1 : Inv X pins σ H1 s1) (r1 : Vals vs us) (hz : vs.length ≤ 1000)
    (q1 : ∀ a, H1 a = none → sp (.ref a :: vs) (upd H1 a (exo a C none)) (fun v H2 => v = .non ∧ Q (.ref a) H2) fun _ _ _ => False) :
    wpAny (model X.prog X.w) X.A (call (.ref C) us) (EP X pins σ Q) X.xe s1 := by
  obtain ⟨fI, fd, ps, iC, tI, F1, hb⟩ := M.ex
  obtain ⟨nm, q, N, bs, bm, sn, sub, ab, col, dd, k0, k1, k2, k3, k5, hC, hbm⟩ := M.sc.ox.cls
  obtain ⟨hp, g, dr, tk, os⟩ := s1
  have hsz : hp.objs.size ≤ hp.objs.size + 1 := Nat.le_succ _
  have hn : H1 (hp.objs.size + 1) = none := I1.hok.fresh hsz
  have hq := q1 (hp.objs.size + 1) hn
  have kk : ∀ b o, hp.get? b = some o → ((hp.push (PySem.W.kdv_tup us)).push (PySem.HandSPX.excO C hp.objs.size)).get? b = some o := fun b o e => Heap.get?_push_of_some _ (Heap.get?_push_of_some _ e)
  have hget : ((hp.push (PySem.W.kdv_tup us)).push (PySem.HandSPX.excO C hp.objs.size)).get? (hp.objs.size + 1) = some (PySem.HandSPX.excO C hp.objs.size) := by heap_get
  have I2 : Inv X pins σ (upd H1 (hp.objs.size + 1) (exo (hp.objs.size + 1) C none)) ⟨(hp.push (PySem.W.kdv_tup us)).push (PySem.HandSPX.excO C hp.objs.size), g, dr, tk, os⟩ :=
    I1.laid (t' := tk) (a := hp.objs.size + 1) (o := exo (hp.objs.size + 1) C none) (h' := (hp.push (PySem.W.kdv_tup us)).push (PySem.HandSPX.excO C hp.objs.size)) kk hsz (exo_ok hget)
  have r2 : Vals (V.ref (hp.objs.size + 1) :: vs) (Value.ref (hp.objs.size + 1) :: us) := .cons rfl r1
  have hl : (Value.ref (hp.objs.size + 1) :: us ++ []).length = ps.length := by
    have e := r2.length
    rw [F1.len _ _ _ _ hq] at e
    rw [List.append_nil]
    exact e.symm
  have hus : us.length ≤ sizeLine := by
    rw [← Paired.length r1, sizeLine_eq]
    omega
  refine wpAny_call (PySem.HandSPX.call_own F.excBase_ValueError (fun Y => PySem.HandSPX.refsVE_contains Y bm hbm) (I1.kIn _ _ hC) (PySem.W.looks_findIn I1.kIn iC) (fun self => PySem.W.bind_fn I1.kIn self tI) hus
    (codeAny_mono (F1.run _ X.stack _ _ ⟨Value.ref (hp.objs.size + 1) :: us, []⟩ (Value.ref (hp.objs.size + 1) :: us) _ _ (fun _ _ _ => False) (hr.make C us []) (I2.env0.make C us []) (by
      have z := hb _ (Value.ref (hp.objs.size + 1) :: us) I2.kIn hl
      rw [List.append_nil] at z
      exact z) r2 hq) fun r s' hq' => ?_))
  cases r with
  | error er => exact hq'.elim
  | ok fl =>
    cases fl with
    | ret u =>
      obtain ⟨v, H2, os2, bare2, un2, hok2, rv, ev, q2⟩ := hq'
      subst ev
      exact ⟨rv, I2.after (u := .ref (hp.objs.size + 1)) (Q := Q) ⟨.ref (hp.objs.size + 1), H2, os2, bare2, un2, hok2, rfl, q2⟩⟩
    | next => exact False.elim hq'
    | brk => exact False.elim hq'
    | cont => exact False.elim hq'
theorem pe_mkV (M : OMk X.prog X.w X.K X.mg X.base j x C sp) (hr : Room (j + 1) X.A) (hg : Gl X x) (ha : PA X (e :: es) ta)
    (hdb : (x == ("__debug__" : Str)) = false := by decide) (he : starEach (e :: es) X.env = (false, eval e X.env) :: starEach es X.env := by rfl) (hpl : (backTo pos (starEach es X.env)).any (·.1) = false := by rfl) :
    PE X (.Call (.Name x p) (e :: es) [] pos) (tMkV C sp ta) := by
  refine ⟨fun pins s σ H Q I h => ?_⟩
  refine wpAny_Call_Name_kw (ld_glob I hg M.gl ?_ hdb)
  refine PySem.W.callWith_K (h₀ := X.base) I.ok.mod.kin M.sc.ox.kC (thn (ha.run pos pins s σ H _ I h) fun us s1 ⟨vs, H1, I1, r1, hlv, q1⟩ => ⟨I1.kIn, ?_⟩) he hpl
  exact run_mkV M hr I1 r1 hlv q1
theorem pe_mkV0 (M : OMk X.prog X.w X.K X.mg X.base j x C sp) (hr : Room (j + 1) X.A) (hg : Gl X x) (hdb : (x == ("__debug__" : Str)) = false := by decide) :
    PE X (.Call (.Name x p) [] [] pos) (tMkV C sp tNil) := by
  refine ⟨fun pins s σ H Q I h => ?_⟩
  refine wpAny_Call_Name_kw (ld_glob I hg M.gl ?_ hdb)
  obtain ⟨hlv, q1⟩ := h
  exact PySem.W.callWith_K0 I.kIn M.sc.ox.kC (run_mkV (us := []) M hr I .nil hlv q1)
end
/-- such a class of the module as it stands behind the top -/
structure SupOf (K : PySem.W.Frag) (mg : Str → Option Value) (x : Str) (C : Addr) (qual : Str) (st : Stmt) (ps : List Str) : Prop where
  sc : SupC K C
  gl : mg x = some (.ref C)
  ex : ∃ (f : Addr) (fd : FuncData), PySem.W.findIn K (.ref C) "__init__" = some (some (.ref f)) ∧ PySem.W.typeIn K (.ref f) = some (.type "function") ∧ SupFun K "/claim/cut.py" C qual (C8.fnArgs st) (C8.fnBody st) (C8.fnScope st) f fd ∧ Binds K fd ps []
/-! ### an exception that is made, by its class and fields -/
/-- at a: an exception of the class C with these fields -/
inductive ErrAt (H : Hp) (a C : Addr) : List (Str × V) → Prop where
  | no (h : H a = some (exo a C none)) : ErrAt H a C []
  | is (d : Addr) (fs : List (Str × V)) (h : H a = some (exo a C (some d))) (hd : H d = some (exd d fs)) : ErrAt H a C fs
theorem ErrAt.le {H H' : Hp} {a C : Addr} {fs : List (Str × V)} (e : ErrAt H a C fs) (l : ∀ b o, H b = some o → H' b = some o) : ErrAt H' a C fs := by
  cases e with
  | no h => exact .no (l _ _ h)
  | is d fs h hd => exact .is d fs (l _ _ h) (l _ _ hd)
section
open PySem.W
variable {prog : Program} {w : World} {A : Around} {E : Value → Shared → Prop} {s : Shared} {K : Frag} {x D : Addr} {ox : Obj} {od : Option Obj}
theorem findObj_dataO {C : Addr} {name : Str} {a g : Value} (hc : (clsIn K C).isSome = true) (ha : findIn K (.ref C) name = some (some a)) (hg : specialIn K a "__get__" = some (some g)) (ht : takesIn K a = some true) : findObj K C od name = some (.bind g a) := by
  obtain ⟨cd, hc⟩ := Option.isSome_iff_exists.mp hc
  unfold findObj
  rw [hc, Option.bind_some, ha, Option.bind_some]
  simp [hg, ht]
theorem kin_classO {Q : Option Value → Shared → Prop} (C : ExcC K D) (X : K.In s.heap) (I : InstAt s.heap x ox D od) (h : Q (some (.ref D)) { s with toks := s.toks + 1 }) : wpAny (model prog w) A (getAttr? (.ref x) "__class__") Q E s := by
  obtain ⟨hga, hgt, hsub, hdct, ha, hn, htk, hm⟩ := C
  have hf : findObj K D od "__class__" = some (.bind (.builtin "getset_descriptor.__get__") (.builtin "object.__class__")) := findObj_dataO (by obtain ⟨cd, hc, _⟩ := any_some hdct; rw [hc]; rfl) ha hn htk
  obtain ⟨hp, g, d, t, os⟩ := s
  have L0 := I.type (M := model prog w)
  have L1 := looks_findIn (M := model prog w) X hga
  have L2 := looks_findIn (M := model prog w) X hgt
  have L3 := looks_find (M := model prog w) X I hf
  have sub : Looks (model prog w) hp (isInstance (.ref x) (.type "BaseException")) true := L0.andThen (looks_subIn X hsub)
  have hx0 : (false && onTheHeap (Value.builtin "BaseException.__getattribute__")) = false := rfl
  have hx2 : (Value.builtin "BaseException.__getattribute__" == Value.builtin "object.__getattribute__") = false := by decide +kernel
  have hx1 : (onTheHeap (Value.ref D) && Value.builtin "BaseException.__getattribute__" == Value.builtin "object.__getattribute__") = false := by rw [hx2]; rfl
  unfold getAttr? getAttrBy? getAttrBy
  refine wpAny_bind (wpAny_mkText (wpAny_bind (wpAny_attempt (wpAny_holding (wpAny_bind (L0.at (wpAny_bind (L1.at ?_))))))))
  show wpAny _ _ (if (onTheHeap (Value.ref D) && Value.builtin "BaseException.__getattribute__" == Value.builtin "object.__getattribute__") = true then _ else _) _ _ _
  rw [hx1, if_neg Bool.false_ne_true]
  unfold getAttrByItsOwn hookBefore
  refine wpAny_bind ?_
  rw [if_pos (show onTheHeap (Value.ref D) = true from rfl)]
  refine L2.at ?_
  refine wpAny_bind (wpAny_attempt (wpAny_holding ?_))
  unfold callGetattribute
  rw [hx0, if_neg Bool.false_ne_true]
  unfold boundAndCalled
  rw [PySem.F.excAttr_ValueError.ga.bind (.ref x)]
  refine wpAny_bind (wpAny_pure ?_)
  show wpAny _ _ (call (.builtin "BaseException.__getattribute__") [.ref x, .str "__class__" t]) _ _ _
  refine wpAny_call (codeAny_call_builtin PySem.F.excAttr_ValueError.ga.plain PySem.F.entry_bexc_ga ?_)
  refine @check_slot (model prog w) _ _ ⟨hp, g, d, t + 1, os⟩ "BaseException.__getattribute__" "BaseException" "__getattribute__" (.ref x) [.str "__class__" t] [] _ (by decide +kernel) (by decide +kernel) sub (PySem.F.args_bexc_ga (.ref x) (.str "__class__" t)) ?_
  unfold Builtin.«object.__getattribute__»
  refine wpAny_bind (wpAny_of_eq (a := ((Value.ref x : Value), [Value.str "__class__" t])) (by first | rfl | (simp only [slotArgs]; rfl)) ?_)
  refine wpAny_bind (wpAny_pure (wpAny_bind (L0.at (wpAny_bind (L3.at ?_)))))
  show wpAny _ _ (holding [Value.builtin "object.__class__"] (call (.builtin "getset_descriptor.__get__") [.builtin "object.__class__", .ref x, .ref D]) >>= ret) _ _ _
  refine wpAny_bind (wpAny_holding (wpAny_call (class_get (s := ⟨hp, g, d, t + 1, os⟩) (ox := ox) (od := od) X I hm ?_)))
  refine wpAny_pure ?_
  show wpAny _ _ (handedOut (.ref D)) _ _ _
  rw [handedOut_of (v := .ref D) rfl]
  first
    | exact wpAny_pure (wpAny_pure h)
    | exact wpAny_pure h
    | exact wpAny_pure (wpAny_bind (wpAny_pure (wpAny_pure h)))
theorem kitxO (C : ExcC K D) : KitX K (.ref x) (.ref D) (fun h => ∃ ox od, InstAt h x ox D od) where
  ty := fun _ _ _ ⟨_, _, I⟩ => I.type
  it := fun _ _ X _ => by
    obtain ⟨cdD, hcD, _⟩ := any_some C.hd
    unfold clsIn at hcD
    split at hcD
    · rename_i c' d' cd' sl' ho
      intro A' Q' E' s' k q
      unfold isType loadHead
      exact wpAny_bind (wpAny_loadPart (k _ _ (X _ _ ho)) (wpAny_pure q))
    · cases hcD
  ne := fun h tp dd its n sl X htp => by
    obtain ⟨cdD, hcD, _⟩ := any_some C.hd
    refine Bool.eq_false_iff.mpr fun q => ?_
    have e : D = tp := Value.ref.inj (beq_iff_eq.mp q)
    subst e
    unfold clsIn at hcD
    split at hcD
    · rename_i c' d' cd' sl' ho
      have z := (X _ _ ho).symm.trans htp
      cases z
    · cases hcD
  ca := fun X ⟨_, _, I⟩ k => kin_classO C X I k
end
section
variable {X : Cx}
theorem ErrAt.inst {pins : List (Addr × Obj)} {σ : L2.St} {H : Hp} {s : Shared} {a C : Addr} {fs : List (Str × V)} (I : Inv X pins σ H s) (e : ErrAt H a C fs) : ∃ ox od, PySem.W.InstAt s.heap a ox C od := by
  cases e with
  | no h =>
    obtain ⟨t, ho⟩ := exo_at I.hok h
    exact ⟨_, none, ho, rfl, rfl, trivial⟩
  | is d fs h hd =>
    obtain ⟨t, ho⟩ := exo_at I.hok h
    obtain ⟨mA, ⟨od, es, ep, hod, _⟩, _⟩ := exd_at I.hok hd
    exact ⟨_, some od, ho, rfl, rfl, hod⟩
/-- isinstance(e, c), e an exception that is held as a value -/
def rIsX (K : PySem.W.Frag) : List V → Hp → VK → Prop := fun xs H Q => ∃ (a C : Addr) (fs : List (Str × V)) (c : V) (cv : Value) (b : Bool), xs = [.ref a, c] ∧ ErrAt H a C fs ∧ ExcC K C ∧ (∀ u, L2.RelV c u → u = cv) ∧ PySem.W.kitOne K (.ref C) cv = some b ∧ Q (.bl b) H
theorem call_isX : CallR X (.builtin "isinstance") (rIsX X.K) := by
  intro pins s σ H xs us Q I r h
  obtain ⟨a, C, fs, c, cv, b, rfl, ea, ec, hcv, e, q⟩ := h
  cases r with
  | cons rx rr =>
    cases rr with
    | cons rt rr =>
      cases rr
      cases rx
      have ecv := hcv _ rt
      subst ecv
      exact PySem.W.kia_one (kitxO ec) I.kIn (ea.inst I) e (fun z => nomatch z) fun tk => ⟨.bl b, H, I.kept (t' := tk) fun _ _ z => z, rfl, q⟩
/-- e.f, e an exception that is held as a value -/
def tExf (K : PySem.W.Frag) (n : Str) (te : TE) : TE := fun σ H Q => te σ H fun x H1 => ∃ (a C : Addr) (fs : List (Str × V)) (v : V), x = .ref a ∧ ErrAt H1 a C fs ∧ XfC K C ∧ PySem.W.findIn K (.ref C) n = some none ∧ fs.lookup n = some v ∧ Q v H1
theorem pe_exf {e : Expr} {te : TE} {pos : Pos} {n : Str} (he : PE X e te) (hb : attributeBase e n X.env (eval e X.env) = eval e X.env := by rfl) : PE X (.Attribute e n pos) (tExf X.K n te) := by
  refine ⟨fun pins s σ H Q I h => ?_⟩
  refine attr_of hb (thn (he.run pins s σ H _ I h) fun u s1 hh => ?_)
  obtain ⟨x, H1, I1, rx, a, C, fs, v, ex, ea, T, hno, l, q⟩ := hh
  subst ex
  obtain rfl : u = Value.ref a := rx
  cases ea with
  | no h => cases l
  | is d fs h hd =>
    obtain ⟨t, ho⟩ := exo_at I1.hok h
    obtain ⟨mA, hns, hr⟩ := exd_at I1.hok hd
    obtain ⟨od, hod, hl⟩ := lookIn_ns hns
    obtain ⟨u, hu, ru⟩ := RelO.some_of (v := v) (o := mA n) (by rw [← l]; exact hr n)
    have J : PySem.W.InstAt s1.heap a _ C (some od) := ⟨ho, rfl, rfl, hod⟩
    exact HandSPX.exc_get I1.kIn J T.ga T.gg T.exC (PySem.W.findObj_own T.hdC hno rfl (by rw [hl, hu])) (handed_of ru) ⟨v, H1, I1.tok _, ru, q⟩
/-! ### the text of a flat value -/
inductive ReprV : V → Str → Prop where
  | int (i : Int) (h : i.natAbs.log2 < 1920) : ReprV (.int i) (Str.ofString (toString i))
  | str (x : Str) (h : (PySem.reprText x).length ≤ sizeLine) : ReprV (.str x) (PySem.reprText x)
  | bl (b : Bool) : ReprV (.bl b) (if b then "True" else "False")
  | non : ReprV .non "None"
def rReprF : List V → Hp → VK → Prop := fun xs H Q => ∃ v t, xs = [v] ∧ ReprV v t ∧ Q (.str t) H
theorem call_reprF : CallR X (.builtin "repr") rReprF := by
  intro pins s σ H xs us Q I r h
  obtain ⟨v, t, rfl, rv, q⟩ := h
  obtain ⟨u, rfl, hu⟩ := vals1 r
  cases rv with
  | int i hz =>
    obtain ⟨tk, rfl⟩ := hu
    exact PySem.P.repr_of_int hz ⟨.str _, H, I.tok _, ⟨_, rfl⟩, q⟩
  | str x hz =>
    obtain ⟨tk, rfl⟩ := hu
    exact PySem.P.repr_of_str ⟨.str _, H, I.tok _, ⟨_, rfl⟩, q⟩ hz
  | bl b =>
    obtain rfl : u = Value.bool b := hu
    exact PySem.P.repr_of_bool ⟨.str _, H, I.tok _, ⟨_, rfl⟩, q⟩
  | non =>
    obtain rfl : u = Value.none := hu
    exact PySem.P.repr_of_none ⟨.str _, H, I.tok _, ⟨_, rfl⟩, q⟩
end
end Od
end
section
set_option Elab.async false
set_option linter.all false
set_option maxRecDepth 100000
set_option maxHeartbeats 2000000
set_option autoImplicit false
/-! the head: facts by places of one's own -/
namespace Od
open PySem PySem.Spec PyProof.Rows L2 He
/-- a def: where it stands, its name, its qualified name, its statement -/
structure DefE where
  ad : PySem.W.Frag → Addr
  name : Str
  qual : Str
  st : Stmt
  sup : Option Str := none
/-- a def of the module, a method of a class, a classmethod -/
def dG (x : Str) (st : Stmt) : DefE := ⟨fun K => ga K x, x, x, st, none⟩
def dM (c m : Str) (q : Str) (st : Stmt) : DefE := ⟨fun K => ma K (ga K c) m, m, q, st, none⟩
def cmF (K : PySem.W.Frag) (c m : Str) : Addr := match PySem.W.recIn K (ma K (ga K c) m) "classmethod" with
  | some (.ref g :: _) => g
  | _ => 0
def dC (c m : Str) (q : Str) (st : Stmt) : DefE := ⟨fun K => cmF K c m, m, q, st, none⟩
/-- the __init__ of an own exception class, which keeps the class in a cell -/
def dS (c : Str) (q : Str) (st : Stmt) : DefE := ⟨fun K => ma K (ga K c) "__init__", "__init__", q, st, some c⟩
def fnA (K : PySem.W.Frag) (d : DefE) : FnW := match K.lookup (d.ad K) with
  | some ⟨_, _, .func fd, _⟩ => some (fd.name, fd.qualname, fd.params, fd.body, fd.scope, fd.globals, (match d.sup with | none => fd.closure | some _ => []), fd.builtins)
  | _ => none
def isNone : Value → Bool
  | .none => true
  | _ => false
theorem isNone_ok {v : Value} (h : isNone v = true) : v = .none := by
  cases v with
  | none => rfl
  | _ => cases h
def DefE.val (d : DefE) : FnW := some (d.name, d.qual, C8.fnArgs d.st, .stmts (C8.fnBody d.st), C8.fnScope d.st, mainGlobals, [], builtinsNs)
/-- the cell that holds the class, the code object that names its file -/
def cellB (K : PySem.W.Frag) (fd : FuncData) (C : Addr) : Bool := match fd.closure, fd.code with
  | [(n, cc)], .ref cd => decide (n = "__class__") && ((match K.lookup cc with
    | some ⟨_, _, .cell (some (.ref D)), _⟩ => decide (D = C)
    | _ => false) && (match K.lookup cd with
    | some ⟨_, _, .fields vs, _⟩ => (match (vs[2]? : Option Value) with
      | some (.str file _) => decide (file = "/claim/cut.py")
      | _ => false)
    | _ => false))
  | _, _ => false
def DefE.ok (K : PySem.W.Frag) (d : DefE) : Bool := PySem.W.keepIn K (.ref (d.ad K)) && (match K.lookup (d.ad K) with
  | some ⟨_, _, .func fd, _⟩ => PySem.W.codeIn K fd.code d.qual && (isNone fd.defaults && (match d.sup with
    | none => true
    | some c => cellB K fd (ga K c)))
  | _ => false)
theorem DefE.sup_ {K : PySem.W.Frag} {d : DefE} {cl : Str} (hs : d.sup = some cl) (hn : d.name = "__init__") (e : fnA K d = d.val) (c : d.ok K = true) : ∃ fd, SupFun K "/claim/cut.py" (ga K cl) d.qual (C8.fnArgs d.st) (C8.fnBody d.st) (C8.fnScope d.st) (d.ad K) fd := by
  obtain ⟨kp, c2⟩ := ba c
  unfold fnA at e
  cases q : K.lookup (d.ad K) with
  | none =>
    rw [q] at c2
    cases c2
  | some o =>
    obtain ⟨oc, od, dt, osl⟩ := o
    rw [q] at c2 e
    cases dt with
    | func fd =>
      rw [hs] at c2 e
      obtain ⟨n1, n2, n3, n4, n5, n6, n7, n8, n9, n10, n11, n12, n13, n14, n15⟩ := fd
      have e2 : (some (n1, n2, n3, n4, n5, n6, [], n15) : FnW) = some (d.name, d.qual, C8.fnArgs d.st, .stmts (C8.fnBody d.st), C8.fnScope d.st, mainGlobals, [], builtinsNs) := e
      simp only [Option.some.injEq, Prod.mk.injEq, true_and] at e2
      obtain ⟨h1, h2, h3, h4, h5, h6, h8⟩ := e2
      subst h1 h2 h3 h4 h5 h6 h8
      obtain ⟨k1, k⟩ := ba (show (PySem.W.codeIn K n13 d.qual && (isNone n8 && cellB K ⟨d.name, d.qual, C8.fnArgs d.st, .stmts (C8.fnBody d.st), C8.fnScope d.st, mainGlobals, n7, n8, n9, n10, n11, n12, n13, n14, builtinsNs⟩ (ga K cl))) = true from c2)
      obtain ⟨k2, k3⟩ := ba k
      unfold cellB at k3
      dsimp only at k3
      split at k3
      · rename_i n cc cd
        obtain ⟨k4, k5⟩ := ba k3
        obtain ⟨k6, k7⟩ := ba k5
        split at k6
        · rename_i ccl ccd D ccs q2
          split at k7
          · rename_i kcl kcd vs kcs q3
            split at k7
            · rename_i file tf q4
              have z1 := of_decide_eq_true k4
              have z2 := of_decide_eq_true k6
              have z3 := of_decide_eq_true k7
              subst z1 z2 z3
              have z4 := isNone_ok k2
              subst z4
              refine ⟨_, oc, od, n10, n11, n14, osl, cc, ccl, ccd, ccs, cd, kcl, kcd, kcs, vs, tf, n9, n12, ?_, q, k1, q2, q3, q4⟩
              rw [hn]
            · cases k7
          · cases k7
        · cases k6
      · cases k3
    | _ => cases c2
theorem DefE.fun_ {K : PySem.W.Frag} {d : DefE} (hs : d.sup = none) (e : fnA K d = d.val) (c : d.ok K = true) : ∃ fd, C8.Fun K d.name d.qual d.st (d.ad K) fd ∧ fd.defaults = .none ∧ PySem.W.keepIn K (.ref (d.ad K)) = true := by
  obtain ⟨kp, c2⟩ := ba c
  unfold fnA at e
  cases q : K.lookup (d.ad K) with
  | none =>
    rw [q] at c2
    cases c2
  | some o =>
    obtain ⟨oc, od, dt, osl⟩ := o
    rw [q] at c2 e
    cases dt with
    | func fd =>
      rw [hs] at c2 e
      obtain ⟨n1, n2, n3, n4, n5, n6, n7, n8, n9, n10, n11, n12, n13, n14, n15⟩ := fd
      have e2 : (some (n1, n2, n3, n4, n5, n6, n7, n15) : FnW) = some (d.name, d.qual, C8.fnArgs d.st, .stmts (C8.fnBody d.st), C8.fnScope d.st, mainGlobals, [], builtinsNs) := e
      simp only [Option.some.injEq, Prod.mk.injEq] at e2
      obtain ⟨h1, h2, h3, h4, h5, h6, h7, h8⟩ := e2
      subst h1 h2 h3 h4 h5 h6 h7 h8
      obtain ⟨k1, k⟩ := ba (show (PySem.W.codeIn K n13 d.qual && (isNone n8 && true)) = true from c2)
      obtain ⟨k2, _⟩ := ba k
      exact ⟨_, ⟨oc, od, n8, n9, n10, n11, n12, n13, n14, osl, rfl, q, k1⟩, isNone_ok k2, kp⟩
    | _ => cases c2
def asX0 (g : Addr → Option Obj) : Nat → List Addr
  | 0 => [mainGlobals, 2]
  | n + 1 => growD g (asX0 g n)
/-- .. and the cells of the functions -/
def asX (g : Addr → Option Obj) (n : Nat) : List Addr := asX0 g n ++ (asX0 g n).flatMap fun a => match g a with
  | some ⟨_, _, .func fd, _⟩ => fd.closure.map (·.2)
  | _ => []
abbrev AlE : Type := Bool × List FnW
def obsE (mo : PySem.W.Frag → Bool) (fn : List DefE) (K : PySem.W.Frag) : AlE := (mo K && fn.all fun d => d.ok K, fn.map fun d => fnA K d)
def valE (fn : List DefE) : AlE := (true, fn.map DefE.val)
def obsEG (n : Nat) (mo : PySem.W.Frag → Bool) (fn : List DefE) (g : Addr → Option Obj) : AlE := obsE mo fn (frG g (asX g n))
def hookE (n : Nat) (mo : PySem.W.Frag → Bool) (fn : List DefE) : PySem.W.Hook where
  α := AlE
  obs := fun s => obsEG n mo fn s.heap.get?
  val := fun _ => valE fn
  says := fun _ h => ∃ K : PySem.W.Frag, K.In h ∧ obsE mo fn K = valE fn
  of := fun _ _ e => ⟨_, frG_in, e⟩
  keeps := fun _ _ _ ⟨K, hK, c⟩ k => ⟨K, PySem.W.Frag.In.keeps hK k, c⟩
theorem obsEG_eq {n : Nat} {mo : PySem.W.Frag → Bool} {fn : List DefE} {g : Addr → Option Obj} {s : Shared} (h : ∀ a, g a = s.heap.get? a) : obsEG n mo fn g = (hookE n mo fn).obs s := by
  have e : g = s.heap.get? := funext h
  rw [e] <;> rfl
section
variable {mo : PySem.W.Frag → Bool} {fn : List DefE} {K : PySem.W.Frag}
theorem saysE_mo (c : obsE mo fn K = valE fn) : mo K = true := (ba (show (mo K && fn.all fun d => d.ok K) = true from congrArg (fun z : AlE => z.1) c)).1
theorem saysE_sup (c : obsE mo fn K = valE fn) (i : Nat) {d : DefE} {cl : Str} (h : fn[i]? = some d := by rfl) (hs : d.sup = some cl := by rfl) (hn : d.name = "__init__" := by rfl) : ∃ fd, SupFun K "/claim/cut.py" (ga K cl) d.qual (C8.fnArgs d.st) (C8.fnBody d.st) (C8.fnScope d.st) (d.ad K) fd := by
  have c2 := (ba (show (mo K && fn.all fun d => d.ok K) = true from congrArg (fun z : AlE => z.1) c)).2
  have e : fn.map (fun d => fnA K d) = fn.map DefE.val := congrArg (fun z : AlE => z.2) c
  have e2 : (fn.map fun d => fnA K d)[i]? = (fn.map DefE.val)[i]? := by rw [e]
  rw [List.getElem?_map, List.getElem?_map, h] at e2
  exact DefE.sup_ hs hn (Option.some.inj e2) (List.all_eq_true.mp c2 d (List.mem_of_getElem? h))
theorem saysE_def (c : obsE mo fn K = valE fn) (i : Nat) {d : DefE} (h : fn[i]? = some d := by rfl) (hsn : d.sup = none := by rfl) : ∃ fd, C8.Fun K d.name d.qual d.st (d.ad K) fd ∧ fd.defaults = .none ∧ PySem.W.keepIn K (.ref (d.ad K)) = true := by
  have c2 := (ba (show (mo K && fn.all fun d => d.ok K) = true from congrArg (fun z : AlE => z.1) c)).2
  have e : fn.map (fun d => fnA K d) = fn.map DefE.val := congrArg (fun z : AlE => z.2) c
  have e2 : (fn.map fun d => fnA K d)[i]? = (fn.map DefE.val)[i]? := by rw [e]
  rw [List.getElem?_map, List.getElem?_map, h] at e2
  exact DefE.fun_ hsn (Option.some.inj e2) (List.all_eq_true.mp c2 d (List.mem_of_getElem? h))
end
/-! ### what is read off -/
/-- the Bool facts: plain ones by place, and one more -/
def moF (fa : List Fa) (ex : PySem.W.Frag → List Bool) (K : PySem.W.Frag) : Bool := (fa.all fun f => f.ok K) && (ex K).all id
theorem moF_fact {fa : List Fa} {ex : PySem.W.Frag → List Bool} {K : PySem.W.Frag} (h : moF fa ex K = true) (i : Nat) {f : Fa} (e : fa[i]? = some f := by rfl) : f.ok K = true :=
  List.all_eq_true.mp (ba h).1 f (List.mem_of_getElem? e)
theorem moF_ex {fa : List Fa} {ex : PySem.W.Frag → List Bool} {K : PySem.W.Frag} (h : moF fa ex K = true) (i : Nat) {b : Bool} (e : (ex K)[i]? = some b := by rfl) : b = true :=
  List.all_eq_true.mp (ba h).2 b (List.mem_of_getElem? e)
section
variable {K : PySem.W.Frag} {h : Heap} {mg : Str → Option Value}
abbrev BindQ (x qual : Str) (st : Stmt) (ps : List Str) : Prop := ∀ (kV doc pm : Value) (an : Option Addr) (cdv ct : Value) (us : List Value), us.length = ps.length → bindArgs (PySem.W.fnOf x qual (C8.fnArgs st) (C8.fnBody st) (C8.fnScope st) .none kV doc pm an cdv ct) ⟨us, []⟩ = pure (ps.zip us)
theorem defOf_ (X : K.In h) (G : h.Ns mainGlobals mg) {x : Str} {st : Stmt} {ps : List Str} (c1 : (Fa.glo x).ok K = true) (c2 : ∃ fd, C8.Fun K (dG x st).name (dG x st).qual (dG x st).st ((dG x st).ad K) fd ∧ fd.defaults = .none ∧ PySem.W.keepIn K (.ref ((dG x st).ad K)) = true) (hb : BindQ x x st ps) : DefOf K mg x st ps := by
  obtain ⟨fd, F, df, kp⟩ := c2
  exact ⟨_, fd, ⟨F, glo_ok X G c1, kp⟩, C8.Fun.binds F df hb⟩
theorem metOf_ {c m q : Str} {st : Stmt} {ps : List Str} (c1 : (Fa.meth c m).ok K = true) (c2 : ∃ fd, C8.Fun K (dM c m q st).name (dM c m q st).qual (dM c m q st).st ((dM c m q st).ad K) fd ∧ fd.defaults = .none ∧ PySem.W.keepIn K (.ref ((dM c m q st).ad K)) = true) (hb : BindQ m q st ps) : MetOf K (ga K c) m q st ps := by
  obtain ⟨fd, F, df, kp⟩ := c2
  exact ⟨_, fd, meth_ok c1, F, C8.Fun.binds F df hb⟩
theorem makOf_ {c q : Str} {st : Stmt} {ps : List Str} (c1 : (Fa.mkr c).ok K = true) (c2 : ∃ fd, C8.Fun K (dM c "__init__" q st).name (dM c "__init__" q st).qual (dM c "__init__" q st).st ((dM c "__init__" q st).ad K) fd ∧ fd.defaults = .none ∧ PySem.W.keepIn K (.ref ((dM c "__init__" q st).ad K)) = true) (hb : BindQ "__init__" q st ps) : MakOf K (ga K c) q st ps := by
  obtain ⟨fd, F, df, kp⟩ := c2
  exact ⟨_, fd, mkr_ok c1, F, C8.Fun.binds F df hb⟩
/-- a class is read as its type reads it -/
def crdB (K : PySem.W.Frag) (c : Str) : Bool := PySem.W.readsIn K (ga K c) (.type "type") && eqO (PySem.W.specialIn K (.ref (ga K c)) "__getattribute__") (some (some (.builtin "type.__getattribute__")))
theorem crd_ok {c : Str} (e : crdB K c = true) : ClX.CRead K (ga K c) (.type "type") := by
  obtain ⟨e1, e2⟩ := ba e
  exact ⟨e1, eqO_ok e2⟩
/-- a classmethod of a class -/
def clmB (K : PySem.W.Frag) (c m : Str) : Bool := (match PySem.W.findCls K (.ref (ga K c)) (.type "type") m with
  | some (.get (.builtin s) (.ref p) .none (.ref d)) => decide (s = "classmethod.__get__") && (decide (p = ma K (ga K c) m) && decide (d = ga K c))
  | _ => false) && ((match PySem.W.recIn K (ma K (ga K c) m) "classmethod" with
  | some (.ref _ :: _) => true
  | _ => false) && PySem.W.fnIn K (cmF K c m))
theorem clm_ok {c m : Str} (e : clmB K c m = true) : ClX.CMet K (ga K c) (.type "type") m (ma K (ga K c) m) (cmF K c m) := by
  obtain ⟨e1, e⟩ := ba e
  obtain ⟨e2, e3⟩ := ba e
  refine ⟨?_, ?_, e3⟩
  · split at e1
    · rename_i s p d q
      obtain ⟨h1, h⟩ := ba e1
      obtain ⟨h2, h3⟩ := ba h
      rw [q, of_decide_eq_true h1, of_decide_eq_true h2, of_decide_eq_true h3]
    · cases e1
  · unfold cmF
    split at e2
    · rename_i g rest q
      rw [q]
      exact ⟨rest, rfl⟩
    · cases e2
theorem clmOf_ {c m q : Str} {st : Stmt} {ps : List Str} (c0 : crdB K c = true) (c1 : clmB K c m = true) (c2 : ∃ fd, C8.Fun K (dC c m q st).name (dC c m q st).qual (dC c m q st).st ((dC c m q st).ad K) fd ∧ fd.defaults = .none ∧ PySem.W.keepIn K (.ref ((dC c m q st).ad K)) = true) (hb : BindQ m q st ps) : ClmOf K (ga K c) m q st ps := by
  obtain ⟨fd, F, df, kp⟩ := c2
  exact ⟨_, _, _, fd, crd_ok c0, clm_ok c1, F, C8.Fun.binds F df hb⟩
/-! ### own exception classes -/
def oexB (K : PySem.W.Frag) (C : Addr) : Bool := (match K.lookup C with
  | some ⟨.type "type", _, .cls cd, sl⟩ => (match cd.mro, sl.toList with
    | .ref C' :: bm, [_, _, _, _, some (.builtin n), _] => decide (C' = C) && (decide (n = "ValueError.__new__") && (!cd.hasDel && (cd.hasDict && PySem.HandSPX.refsVE bm)))
    | _, _ => false)
  | _ => false) && (eqO (PySem.W.findIn K (.ref C) "__setattr__") (some (some (.builtin "object.__setattr__"))) && (decide (PySem.W.subIn K (.ref C) (.type "BaseException") = some true) && (decide (PySem.W.typeIn K (.ref C) = some (.type "type")) && PySem.W.keepIn K (.ref C))))
theorem oex_ok {C : Addr} (q : oexB K C = true) : OexC K C := by
  obtain ⟨q, q2⟩ := ba q
  obtain ⟨q3, q2⟩ := ba q2
  obtain ⟨q4, q2⟩ := ba q2
  obtain ⟨q5, q6⟩ := ba q2
  refine ⟨?_, eqO_ok q3, of_decide_eq_true q4, of_decide_eq_true q5, q6⟩
  split at q
  · rename_i dd cd sl ho
    split at q
    · rename_i C' bm k0 k1 k2 k3 n k5 hm hs
      simp only [Bool.and_eq_true, decide_eq_true_eq, Bool.not_eq_true'] at q
      obtain ⟨rfl, rfl, hdel, hdict, ht⟩ := q
      obtain ⟨nm, bs, mro, ns, qn, hd, sn, sub, ab, col, del⟩ := cd
      dsimp only at hm hdel hdict
      subst hm hdel hdict
      have hsl : sl = #[k0, k1, k2, k3, some (.builtin "ValueError.__new__"), k5] := by
        obtain ⟨l⟩ := sl
        simp only at hs
        rw [hs]
      subst hsl
      exact ⟨nm, qn, ns, bs, bm, sn, sub, ab, col, dd, k0, k1, k2, k3, k5, ho, ht⟩
    · cases q
  · cases q
def supB (K : PySem.W.Frag) (c : Str) : Bool := oexB K (ga K c) && (xfB K (ga K c) && (eqO (PySem.W.findIn K (.ref (ga K c)) "__class__") (some (some (.builtin "object.__class__"))) && (eqO (PySem.W.specialIn K (.builtin "object.__class__") "__get__") (some (some (.builtin "getset_descriptor.__get__"))) &&
  (decide (PySem.W.takesIn K (.builtin "object.__class__") = some true) && (decide (PySem.W.mroIn K (ga K c) (.type "object") = some true) && (decide (PySem.W.mroIn K (ga K c) (.ref (ga K c)) = some true) && (eqO (PySem.W.ks_superIn K (ga K c) (ga K c) "__init__") (some (some (.builtin "ValueError.__init__"))) &&
  (decide (PySem.W.subIn K (.ref (ga K c)) (.type "ValueError") = some true) && eqO (PySem.W.nsIn K cStatics "thirdparty.any") (some none)))))))))
theorem sup_ok {c : Str} (q : supB K c = true) : SupC K (ga K c) := by
  obtain ⟨q1, q⟩ := ba q
  obtain ⟨q2, q⟩ := ba q
  obtain ⟨q3, q⟩ := ba q
  obtain ⟨q4, q⟩ := ba q
  obtain ⟨q5, q⟩ := ba q
  obtain ⟨q6, q⟩ := ba q
  obtain ⟨q7, q⟩ := ba q
  obtain ⟨q8, q⟩ := ba q
  obtain ⟨q9, q10⟩ := ba q
  have x := xfB_ok q2
  exact ⟨oex_ok q1, x, ⟨x.ga, x.gg, x.exC, x.hdC, eqO_ok q3, eqO_ok q4, of_decide_eq_true q5, of_decide_eq_true q6⟩, of_decide_eq_true q7, eqO_ok q8, of_decide_eq_true q9, eqO_ok q10⟩
abbrev BindS (qual : Str) (st : Stmt) (ps : List Str) : Prop := ∀ (kV doc pm : Value) (an : Option Addr) (cdv ct : Value) (cc : Addr) (us : List Value), us.length = ps.length → bindArgs (PySem.W.fnX "__init__" qual (C8.fnArgs st) (C8.fnBody st) (C8.fnScope st) [("__class__", cc)] .none kV doc pm an cdv ct) ⟨us, []⟩ = pure (ps.zip us)
def initB (K : PySem.W.Frag) (c : Str) : Bool := eqO (PySem.W.findIn K (.ref (ga K c)) "__init__") (some (some (.ref (ma K (ga K c) "__init__")))) && decide (PySem.W.typeIn K (.ref (ma K (ga K c) "__init__")) = some (.type "function"))
theorem supOf_ (X : K.In h) (G : h.Ns mainGlobals mg) {c q : Str} {st : Stmt} {ps : List Str} (c0 : supB K c = true) (c1 : (Fa.glo c).ok K = true) (ci : initB K c = true) (c2 : ∃ fd, SupFun K "/claim/cut.py" (ga K c) (dS c q st).qual (C8.fnArgs (dS c q st).st) (C8.fnBody (dS c q st).st) (C8.fnScope (dS c q st).st) ((dS c q st).ad K) fd) (hb : BindS q st ps) : SupOf K mg c (ga K c) q st ps := by
  obtain ⟨fd, F⟩ := c2
  obtain ⟨i1, i2⟩ := ba ci
  refine ⟨sup_ok c0, glo_ok X G c1, _, fd, eqO_ok i1, of_decide_eq_true i2, F, ?_⟩
  obtain ⟨oc, od, doc, pm, ct, osl, cc, ccl, ccd, ccs, cd, kcl, kcd, kcs, vss, tf, kV, an, rfl, _⟩ := F.ex
  exact .all fun us hl => hb kV doc pm an (.ref cd) ct cc us hl
theorem strG (X : K.In h) (G : h.Ns mainGlobals mg) {x z : Str} (c : (Fa.str x z).ok K = true) : ∃ u, mg x = some u ∧ L2.RelV (.str z) u := by
  obtain ⟨t, e⟩ := str_ok X G c
  exact ⟨_, e, t, rfl⟩
theorem intG (X : K.In h) (G : h.Ns mainGlobals mg) {x : Str} {i : Int} (c : (Fa.int x i).ok K = true) : ∃ u, mg x = some u ∧ L2.RelV (.int i) u := by
  obtain ⟨t, e⟩ := int_ok X G c
  exact ⟨_, e, t, rfl⟩
end
end Od
end
section
set_option Elab.async false
set_option linter.all false
set_option maxRecDepth 100000
set_option maxHeartbeats 2000000
set_option autoImplicit false
/-! the package's own exceptions: their __init__ -/
namespace Od
open PySem PySem.Spec PyProof.Rows L2 C8
/-- field f holds v -/
def sp_err (C : Addr) (f : Str) (ok : V → Prop) : Sp := fun vs H Q _ => ∃ (a : Addr) (v : V), vs = [.ref a, v] ∧ ok v ∧ H a = some (exo a C none) ∧ ∀ H', LeX a H H' → (∀ b, H' b = none → H b = none) → ErrAt H' a C [(f, v)] → Q .non H'
/-- no field -/
def sp_err0 (C : Addr) : Sp := fun vs H Q _ => ∃ a : Addr, vs = [.ref a] ∧ H a = some (exo a C none) ∧ (ErrAt H a C [] → Q .non H)
/-- a list of texts, kept as a new list -/
def sp_errL (K : PySem.W.Frag) (C : Addr) : Sp := fun vs H Q _ => ∃ (a l : Addr) (xs : List V), vs = [.ref a, .ref l] ∧ SqL K H l xs ∧ xs.length ≤ 10000 ∧ H a = some (exo a C none) ∧ ∀ H' q, LeX a H H' → (∀ b, H' b = none → H b = none) → H q = none → q ≠ a → H' q = some (.lst xs) → ErrAt H' a C [("names", .ref q)] → Q .non H'
def isInt9 (v : V) : Prop := ∃ i : Int, v = .int i ∧ i.natAbs.log2 < 1900
def isStr9 (v : V) : Prop := ∃ s : Str, v = .str s ∧ s.length ≤ 1000000
theorem num_len {i : Int} (h : i.natAbs.log2 < 1900) : (Str.ofString (toString i)).length ≤ 10000 := by
  have e := int_text_length_le (k := 1900) (by decide) h
  rw [PySem.ofString_length]
  omega
theorem lenJ (a b : Str) : (a ++ b).length = a.length + b.length := by
  show (a.cps ++ b.cps).size = _
  rw [Array.size_append]
  rfl
theorem szJ {a b : Str} {m n : Nat} (ha : a.length ≤ m) (hb : b.length ≤ n) (h : m + n ≤ 16000000) : (a ++ b).length ≤ sizeLine := by
  rw [lenJ]
  exact le_szl _ (by omega)
theorem leJ {a b : Str} {m n : Nat} (ha : a.length ≤ m) (hb : b.length ≤ n) : (a ++ b).length ≤ m + n := by
  rw [lenJ]
  omega
theorem put_err {H : Hp} {a C dx : Addr} {f : Str} {v : V} (ha : H a = some (exo a C none)) (nx : H dx = none) (ne : dx ≠ a) : LeX a H (upd (upd H dx (exd dx [(f, v)])) a (exo a C (some dx))) ∧ (∀ b, upd (upd H dx (exd dx [(f, v)])) a (exo a C (some dx)) b = none → H b = none) ∧ ErrAt (upd (upd H dx (exd dx [(f, v)])) a (exo a C (some dx))) a C [(f, v)] := by
  refine ⟨fun b o hb h => ?_, fun b h => ?_, .is dx _ upd_self ?_⟩
  · rw [upd_ne hb, upd_ne (ne_of_new nx h)]
    exact h
  · by_cases h1 : b = a
    · rw [h1, upd_self] at h; cases h
    · rw [upd_ne h1] at h
      by_cases h2 : b = dx
      · rw [h2]; exact nx
      · rw [upd_ne h2] at h; exact h
  · rw [upd_ne ne, upd_self]
section
variable {P : Program} {w : World} {K : PySem.W.Frag} {mg : Str → Option Value} {base : Heap}
abbrev s_BadDays___init__ : Stmt := inClass (top 2) 0
abbrev N_BadDays___init__ : List Str := ["self", "index", "__class__"]
abbrev P_BadDays___init__ : List Str := ["self", "index"]
theorem sc_BadDays___init__ : NdefX.NScope N_BadDays___init__ P_BadDays___init__ ["__class__"] (C8.fnScope s_BadDays___init__) := NdefX.nscope_by (by decide +kernel)
theorem ss_BadDays___init__ : SupS (C8.fnScope s_BadDays___init__) (C8.fnArgs s_BadDays___init__) "self" := ⟨by decide +kernel, by decide +kernel, by decide +kernel, _, rfl, rfl⟩
theorem o_BadDays {C : Addr} (nf : PySem.W.findIn K (.ref C) "index" = some none) (EP : SupP P "/claim/cut.py") (hsu : mg "super" = none) (F : SupOf K mg "BadDays" C "BadDays.__init__" s_BadDays___init__ P_BadDays___init__) : OMk P w K mg base 1 "BadDays" C (sp_err C "index" isInt9) := by
  obtain ⟨f, fd, h1, h2, F1, b⟩ := F.ex
  refine ⟨F.sc, F.gl, f, fd, _, h1, h2, fn_sup (k := 0) F1 F.sc EP sc_BadDays___init__ ss_BadDays___init__ rfl hsu (fun vs H Q E h => by obtain ⟨_, _, rfl, _⟩ := h; rfl) (fun cc cd A outer s H vs Q E hr h => ?_), b⟩
  obtain ⟨a, v, rfl, ⟨i, rfl, hi⟩, ha, q⟩ := h
  have nd := sc_BadDays___init__.nd
  have n1 := num_len hi
  refine ⟨_, _, (pa_cons (pe_joined (.cons pe_str (.cons (pe_fmt (pv 1)) (.cons pe_str .nil)))) pa_nil), (pss_one (ps_ost (pv 0) (pv 1))), ?_⟩
  refine ⟨a, rfl, ha, _, rfl, szJ (m := 0) (n := 100) (by decide +kernel) (by decide +kernel) (by decide), _, rfl, .inr ⟨i, rfl, by omega, _, rfl, szJ (m := 0 + 100) (n := 10000) (leJ (by decide +kernel) (by decide +kernel)) n1 (by decide), ?_⟩⟩
  refine ⟨_, rfl, szJ (m := 0 + 100 + 10000) (n := 100) (leJ (leJ (by decide +kernel) (by decide +kernel)) n1) (by decide +kernel) (by decide), ?_⟩
  refine ⟨show 1 ≤ 1000 by decide, ha, ?_⟩
  refine ⟨_, rfl, _, rfl, a, C, rfl, F.sc.ox, nf, .inl ⟨ha, fun dx nx ne => ?_⟩⟩
  obtain ⟨z1, z2, z3⟩ := put_err (v := .int i) ha nx ne
  exact q _ z1 z2 z3
abbrev s_BadMap___init__ : Stmt := inClass (top 3) 0
abbrev N_BadMap___init__ : List Str := ["self", "line", "__class__"]
abbrev P_BadMap___init__ : List Str := ["self", "line"]
theorem sc_BadMap___init__ : NdefX.NScope N_BadMap___init__ P_BadMap___init__ ["__class__"] (C8.fnScope s_BadMap___init__) := NdefX.nscope_by (by decide +kernel)
theorem ss_BadMap___init__ : SupS (C8.fnScope s_BadMap___init__) (C8.fnArgs s_BadMap___init__) "self" := ⟨by decide +kernel, by decide +kernel, by decide +kernel, _, rfl, rfl⟩
theorem o_BadMap {C : Addr} (nf : PySem.W.findIn K (.ref C) "line" = some none) (EP : SupP P "/claim/cut.py") (hsu : mg "super" = none) (F : SupOf K mg "BadMap" C "BadMap.__init__" s_BadMap___init__ P_BadMap___init__) : OMk P w K mg base 1 "BadMap" C (sp_err C "line" isInt9) := by
  obtain ⟨f, fd, h1, h2, F1, b⟩ := F.ex
  refine ⟨F.sc, F.gl, f, fd, _, h1, h2, fn_sup (k := 0) F1 F.sc EP sc_BadMap___init__ ss_BadMap___init__ rfl hsu (fun vs H Q E h => by obtain ⟨_, _, rfl, _⟩ := h; rfl) (fun cc cd A outer s H vs Q E hr h => ?_), b⟩
  obtain ⟨a, v, rfl, ⟨i, rfl, hi⟩, ha, q⟩ := h
  have nd := sc_BadMap___init__.nd
  have n1 := num_len hi
  refine ⟨_, _, (pa_cons (pe_joined (.cons pe_str (.cons (pe_fmt (pv 1)) (.cons pe_str .nil)))) pa_nil), (pss_one (ps_ost (pv 0) (pv 1))), ?_⟩
  refine ⟨a, rfl, ha, _, rfl, szJ (m := 0) (n := 100) (by decide +kernel) (by decide +kernel) (by decide), _, rfl, .inr ⟨i, rfl, by omega, _, rfl, szJ (m := 0 + 100) (n := 10000) (leJ (by decide +kernel) (by decide +kernel)) n1 (by decide), ?_⟩⟩
  refine ⟨_, rfl, szJ (m := 0 + 100 + 10000) (n := 100) (leJ (leJ (by decide +kernel) (by decide +kernel)) n1) (by decide +kernel) (by decide), ?_⟩
  refine ⟨show 1 ≤ 1000 by decide, ha, ?_⟩
  refine ⟨_, rfl, _, rfl, a, C, rfl, F.sc.ox, nf, .inl ⟨ha, fun dx nx ne => ?_⟩⟩
  obtain ⟨z1, z2, z3⟩ := put_err (v := .int i) ha nx ne
  exact q _ z1 z2 z3
abbrev s_BadRule___init__ : Stmt := inClass (top 4) 0
abbrev N_BadRule___init__ : List Str := ["self", "index", "__class__"]
abbrev P_BadRule___init__ : List Str := ["self", "index"]
theorem sc_BadRule___init__ : NdefX.NScope N_BadRule___init__ P_BadRule___init__ ["__class__"] (C8.fnScope s_BadRule___init__) := NdefX.nscope_by (by decide +kernel)
theorem ss_BadRule___init__ : SupS (C8.fnScope s_BadRule___init__) (C8.fnArgs s_BadRule___init__) "self" := ⟨by decide +kernel, by decide +kernel, by decide +kernel, _, rfl, rfl⟩
theorem o_BadRule {C : Addr} (nf : PySem.W.findIn K (.ref C) "index" = some none) (EP : SupP P "/claim/cut.py") (hsu : mg "super" = none) (F : SupOf K mg "BadRule" C "BadRule.__init__" s_BadRule___init__ P_BadRule___init__) : OMk P w K mg base 1 "BadRule" C (sp_err C "index" isInt9) := by
  obtain ⟨f, fd, h1, h2, F1, b⟩ := F.ex
  refine ⟨F.sc, F.gl, f, fd, _, h1, h2, fn_sup (k := 0) F1 F.sc EP sc_BadRule___init__ ss_BadRule___init__ rfl hsu (fun vs H Q E h => by obtain ⟨_, _, rfl, _⟩ := h; rfl) (fun cc cd A outer s H vs Q E hr h => ?_), b⟩
  obtain ⟨a, v, rfl, ⟨i, rfl, hi⟩, ha, q⟩ := h
  have nd := sc_BadRule___init__.nd
  have n1 := num_len hi
  refine ⟨_, _, (pa_cons (pe_joined (.cons pe_str (.cons (pe_fmt (pv 1)) (.cons pe_str .nil)))) pa_nil), (pss_one (ps_ost (pv 0) (pv 1))), ?_⟩
  refine ⟨a, rfl, ha, _, rfl, szJ (m := 0) (n := 100) (by decide +kernel) (by decide +kernel) (by decide), _, rfl, .inr ⟨i, rfl, by omega, _, rfl, szJ (m := 0 + 100) (n := 10000) (leJ (by decide +kernel) (by decide +kernel)) n1 (by decide), ?_⟩⟩
  refine ⟨_, rfl, szJ (m := 0 + 100 + 10000) (n := 100) (leJ (leJ (by decide +kernel) (by decide +kernel)) n1) (by decide +kernel) (by decide), ?_⟩
  refine ⟨show 1 ≤ 1000 by decide, ha, ?_⟩
  refine ⟨_, rfl, _, rfl, a, C, rfl, F.sc.ox, nf, .inl ⟨ha, fun dx nx ne => ?_⟩⟩
  obtain ⟨z1, z2, z3⟩ := put_err (v := .int i) ha nx ne
  exact q _ z1 z2 z3
abbrev s_TooMany___init__ : Stmt := inClass (top 12) 0
abbrev N_TooMany___init__ : List Str := ["self", "limit", "__class__"]
abbrev P_TooMany___init__ : List Str := ["self", "limit"]
theorem sc_TooMany___init__ : NdefX.NScope N_TooMany___init__ P_TooMany___init__ ["__class__"] (C8.fnScope s_TooMany___init__) := NdefX.nscope_by (by decide +kernel)
theorem ss_TooMany___init__ : SupS (C8.fnScope s_TooMany___init__) (C8.fnArgs s_TooMany___init__) "self" := ⟨by decide +kernel, by decide +kernel, by decide +kernel, _, rfl, rfl⟩
theorem o_TooMany {C : Addr} (nf : PySem.W.findIn K (.ref C) "limit" = some none) (EP : SupP P "/claim/cut.py") (hsu : mg "super" = none) (F : SupOf K mg "TooMany" C "TooMany.__init__" s_TooMany___init__ P_TooMany___init__) : OMk P w K mg base 1 "TooMany" C (sp_err C "limit" isInt9) := by
  obtain ⟨f, fd, h1, h2, F1, b⟩ := F.ex
  refine ⟨F.sc, F.gl, f, fd, _, h1, h2, fn_sup (k := 0) F1 F.sc EP sc_TooMany___init__ ss_TooMany___init__ rfl hsu (fun vs H Q E h => by obtain ⟨_, _, rfl, _⟩ := h; rfl) (fun cc cd A outer s H vs Q E hr h => ?_), b⟩
  obtain ⟨a, v, rfl, ⟨i, rfl, hi⟩, ha, q⟩ := h
  have nd := sc_TooMany___init__.nd
  have n1 := num_len hi
  refine ⟨_, _, (pa_cons (pe_joined (.cons pe_str (.cons (pe_fmt (pv 1)) .nil))) pa_nil), (pss_one (ps_ost (pv 0) (pv 1))), ?_⟩
  refine ⟨a, rfl, ha, _, rfl, szJ (m := 0) (n := 100) (by decide +kernel) (by decide +kernel) (by decide), _, rfl, .inr ⟨i, rfl, by omega, _, rfl, szJ (m := 0 + 100) (n := 10000) (leJ (by decide +kernel) (by decide +kernel)) n1 (by decide), ?_⟩⟩
  refine ⟨show 1 ≤ 1000 by decide, ha, ?_⟩
  refine ⟨_, rfl, _, rfl, a, C, rfl, F.sc.ox, nf, .inl ⟨ha, fun dx nx ne => ?_⟩⟩
  obtain ⟨z1, z2, z3⟩ := put_err (v := .int i) ha nx ne
  exact q _ z1 z2 z3
abbrev s_NoChain___init__ : Stmt := inClass (top 5) 0
abbrev N_NoChain___init__ : List Str := ["self", "name", "__class__"]
abbrev P_NoChain___init__ : List Str := ["self", "name"]
theorem sc_NoChain___init__ : NdefX.NScope N_NoChain___init__ P_NoChain___init__ ["__class__"] (C8.fnScope s_NoChain___init__) := NdefX.nscope_by (by decide +kernel)
theorem ss_NoChain___init__ : SupS (C8.fnScope s_NoChain___init__) (C8.fnArgs s_NoChain___init__) "self" := ⟨by decide +kernel, by decide +kernel, by decide +kernel, _, rfl, rfl⟩
theorem o_NoChain {C : Addr} (nf : PySem.W.findIn K (.ref C) "name" = some none) (EP : SupP P "/claim/cut.py") (hsu : mg "super" = none) (F : SupOf K mg "NoChain" C "NoChain.__init__" s_NoChain___init__ P_NoChain___init__) : OMk P w K mg base 1 "NoChain" C (sp_err C "name" isStr9) := by
  obtain ⟨f, fd, h1, h2, F1, b⟩ := F.ex
  refine ⟨F.sc, F.gl, f, fd, _, h1, h2, fn_sup (k := 0) F1 F.sc EP sc_NoChain___init__ ss_NoChain___init__ rfl hsu (fun vs H Q E h => by obtain ⟨_, _, rfl, _⟩ := h; rfl) (fun cc cd A outer s H vs Q E hr h => ?_), b⟩
  obtain ⟨a, v, rfl, ⟨i, rfl, hi⟩, ha, q⟩ := h
  have nd := sc_NoChain___init__.nd
  refine ⟨_, _, (pa_cons (pe_joined (.cons pe_str (.cons (pe_fmt (pv 1)) .nil))) pa_nil), (pss_one (ps_ost (pv 0) (pv 1))), ?_⟩
  refine ⟨a, rfl, ha, _, rfl, szJ (m := 0) (n := 100) (by decide +kernel) (by decide +kernel) (by decide), _, rfl, .inl ⟨i, rfl, le_szl _ (by omega), _, rfl, szJ (m := 0 + 100) (n := 1000000) (leJ (by decide +kernel) (by decide +kernel)) hi (by decide), ?_⟩⟩
  refine ⟨show 1 ≤ 1000 by decide, ha, ?_⟩
  refine ⟨_, rfl, _, rfl, a, C, rfl, F.sc.ox, nf, .inl ⟨ha, fun dx nx ne => ?_⟩⟩
  obtain ⟨z1, z2, z3⟩ := put_err (v := .str i) ha nx ne
  exact q _ z1 z2 z3
abbrev s_BadName___init__ : Stmt := inClass (top 9) 0
abbrev N_BadName___init__ : List Str := ["self", "name", "__class__"]
abbrev P_BadName___init__ : List Str := ["self", "name"]
theorem sc_BadName___init__ : NdefX.NScope N_BadName___init__ P_BadName___init__ ["__class__"] (C8.fnScope s_BadName___init__) := NdefX.nscope_by (by decide +kernel)
theorem ss_BadName___init__ : SupS (C8.fnScope s_BadName___init__) (C8.fnArgs s_BadName___init__) "self" := ⟨by decide +kernel, by decide +kernel, by decide +kernel, _, rfl, rfl⟩
theorem o_BadName {C : Addr} (nf : PySem.W.findIn K (.ref C) "name" = some none) (EP : SupP P "/claim/cut.py") (hsu : mg "super" = none) (F : SupOf K mg "BadName" C "BadName.__init__" s_BadName___init__ P_BadName___init__) : OMk P w K mg base 1 "BadName" C (sp_err C "name" isStr9) := by
  obtain ⟨f, fd, h1, h2, F1, b⟩ := F.ex
  refine ⟨F.sc, F.gl, f, fd, _, h1, h2, fn_sup (k := 0) F1 F.sc EP sc_BadName___init__ ss_BadName___init__ rfl hsu (fun vs H Q E h => by obtain ⟨_, _, rfl, _⟩ := h; rfl) (fun cc cd A outer s H vs Q E hr h => ?_), b⟩
  obtain ⟨a, v, rfl, ⟨i, rfl, hi⟩, ha, q⟩ := h
  have nd := sc_BadName___init__.nd
  refine ⟨_, _, (pa_cons (pe_joined (.cons pe_str (.cons (pe_fmt (pv 1)) .nil))) pa_nil), (pss_one (ps_ost (pv 0) (pv 1))), ?_⟩
  refine ⟨a, rfl, ha, _, rfl, szJ (m := 0) (n := 100) (by decide +kernel) (by decide +kernel) (by decide), _, rfl, .inl ⟨i, rfl, le_szl _ (by omega), _, rfl, szJ (m := 0 + 100) (n := 1000000) (leJ (by decide +kernel) (by decide +kernel)) hi (by decide), ?_⟩⟩
  refine ⟨show 1 ≤ 1000 by decide, ha, ?_⟩
  refine ⟨_, rfl, _, rfl, a, C, rfl, F.sc.ox, nf, .inl ⟨ha, fun dx nx ne => ?_⟩⟩
  obtain ⟨z1, z2, z3⟩ := put_err (v := .str i) ha nx ne
  exact q _ z1 z2 z3
abbrev s_NoWalker___init__ : Stmt := inClass (top 10) 0
abbrev N_NoWalker___init__ : List Str := ["self", "name", "__class__"]
abbrev P_NoWalker___init__ : List Str := ["self", "name"]
theorem sc_NoWalker___init__ : NdefX.NScope N_NoWalker___init__ P_NoWalker___init__ ["__class__"] (C8.fnScope s_NoWalker___init__) := NdefX.nscope_by (by decide +kernel)
theorem ss_NoWalker___init__ : SupS (C8.fnScope s_NoWalker___init__) (C8.fnArgs s_NoWalker___init__) "self" := ⟨by decide +kernel, by decide +kernel, by decide +kernel, _, rfl, rfl⟩
theorem o_NoWalker {C : Addr} (nf : PySem.W.findIn K (.ref C) "name" = some none) (EP : SupP P "/claim/cut.py") (hsu : mg "super" = none) (F : SupOf K mg "NoWalker" C "NoWalker.__init__" s_NoWalker___init__ P_NoWalker___init__) : OMk P w K mg base 1 "NoWalker" C (sp_err C "name" isStr9) := by
  obtain ⟨f, fd, h1, h2, F1, b⟩ := F.ex
  refine ⟨F.sc, F.gl, f, fd, _, h1, h2, fn_sup (k := 0) F1 F.sc EP sc_NoWalker___init__ ss_NoWalker___init__ rfl hsu (fun vs H Q E h => by obtain ⟨_, _, rfl, _⟩ := h; rfl) (fun cc cd A outer s H vs Q E hr h => ?_), b⟩
  obtain ⟨a, v, rfl, ⟨i, rfl, hi⟩, ha, q⟩ := h
  have nd := sc_NoWalker___init__.nd
  refine ⟨_, _, (pa_cons (pe_joined (.cons pe_str (.cons (pe_fmt (pv 1)) .nil))) pa_nil), (pss_one (ps_ost (pv 0) (pv 1))), ?_⟩
  refine ⟨a, rfl, ha, _, rfl, szJ (m := 0) (n := 100) (by decide +kernel) (by decide +kernel) (by decide), _, rfl, .inl ⟨i, rfl, le_szl _ (by omega), _, rfl, szJ (m := 0 + 100) (n := 1000000) (leJ (by decide +kernel) (by decide +kernel)) hi (by decide), ?_⟩⟩
  refine ⟨show 1 ≤ 1000 by decide, ha, ?_⟩
  refine ⟨_, rfl, _, rfl, a, C, rfl, F.sc.ox, nf, .inl ⟨ha, fun dx nx ne => ?_⟩⟩
  obtain ⟨z1, z2, z3⟩ := put_err (v := .str i) ha nx ne
  exact q _ z1 z2 z3
abbrev s_Taken___init__ : Stmt := inClass (top 13) 0
abbrev N_Taken___init__ : List Str := ["self", "name", "__class__"]
abbrev P_Taken___init__ : List Str := ["self", "name"]
theorem sc_Taken___init__ : NdefX.NScope N_Taken___init__ P_Taken___init__ ["__class__"] (C8.fnScope s_Taken___init__) := NdefX.nscope_by (by decide +kernel)
theorem ss_Taken___init__ : SupS (C8.fnScope s_Taken___init__) (C8.fnArgs s_Taken___init__) "self" := ⟨by decide +kernel, by decide +kernel, by decide +kernel, _, rfl, rfl⟩
theorem o_Taken {C : Addr} (nf : PySem.W.findIn K (.ref C) "name" = some none) (EP : SupP P "/claim/cut.py") (hsu : mg "super" = none) (F : SupOf K mg "Taken" C "Taken.__init__" s_Taken___init__ P_Taken___init__) : OMk P w K mg base 1 "Taken" C (sp_err C "name" isStr9) := by
  obtain ⟨f, fd, h1, h2, F1, b⟩ := F.ex
  refine ⟨F.sc, F.gl, f, fd, _, h1, h2, fn_sup (k := 0) F1 F.sc EP sc_Taken___init__ ss_Taken___init__ rfl hsu (fun vs H Q E h => by obtain ⟨_, _, rfl, _⟩ := h; rfl) (fun cc cd A outer s H vs Q E hr h => ?_), b⟩
  obtain ⟨a, v, rfl, ⟨i, rfl, hi⟩, ha, q⟩ := h
  have nd := sc_Taken___init__.nd
  refine ⟨_, _, (pa_cons (pe_joined (.cons pe_str (.cons (pe_fmt (pv 1)) .nil))) pa_nil), (pss_one (ps_ost (pv 0) (pv 1))), ?_⟩
  refine ⟨a, rfl, ha, _, rfl, szJ (m := 0) (n := 100) (by decide +kernel) (by decide +kernel) (by decide), _, rfl, .inl ⟨i, rfl, le_szl _ (by omega), _, rfl, szJ (m := 0 + 100) (n := 1000000) (leJ (by decide +kernel) (by decide +kernel)) hi (by decide), ?_⟩⟩
  refine ⟨show 1 ≤ 1000 by decide, ha, ?_⟩
  refine ⟨_, rfl, _, rfl, a, C, rfl, F.sc.ox, nf, .inl ⟨ha, fun dx nx ne => ?_⟩⟩
  obtain ⟨z1, z2, z3⟩ := put_err (v := .str i) ha nx ne
  exact q _ z1 z2 z3
abbrev s_NoPromise___init__ : Stmt := inClass (top 14) 0
abbrev N_NoPromise___init__ : List Str := ["self", "name", "__class__"]
abbrev P_NoPromise___init__ : List Str := ["self", "name"]
theorem sc_NoPromise___init__ : NdefX.NScope N_NoPromise___init__ P_NoPromise___init__ ["__class__"] (C8.fnScope s_NoPromise___init__) := NdefX.nscope_by (by decide +kernel)
theorem ss_NoPromise___init__ : SupS (C8.fnScope s_NoPromise___init__) (C8.fnArgs s_NoPromise___init__) "self" := ⟨by decide +kernel, by decide +kernel, by decide +kernel, _, rfl, rfl⟩
theorem o_NoPromise {C : Addr} (nf : PySem.W.findIn K (.ref C) "name" = some none) (EP : SupP P "/claim/cut.py") (hsu : mg "super" = none) (F : SupOf K mg "NoPromise" C "NoPromise.__init__" s_NoPromise___init__ P_NoPromise___init__) : OMk P w K mg base 1 "NoPromise" C (sp_err C "name" isStr9) := by
  obtain ⟨f, fd, h1, h2, F1, b⟩ := F.ex
  refine ⟨F.sc, F.gl, f, fd, _, h1, h2, fn_sup (k := 0) F1 F.sc EP sc_NoPromise___init__ ss_NoPromise___init__ rfl hsu (fun vs H Q E h => by obtain ⟨_, _, rfl, _⟩ := h; rfl) (fun cc cd A outer s H vs Q E hr h => ?_), b⟩
  obtain ⟨a, v, rfl, ⟨i, rfl, hi⟩, ha, q⟩ := h
  have nd := sc_NoPromise___init__.nd
  refine ⟨_, _, (pa_cons (pe_joined (.cons pe_str (.cons (pe_fmt (pv 1)) .nil))) pa_nil), (pss_one (ps_ost (pv 0) (pv 1))), ?_⟩
  refine ⟨a, rfl, ha, _, rfl, szJ (m := 0) (n := 100) (by decide +kernel) (by decide +kernel) (by decide), _, rfl, .inl ⟨i, rfl, le_szl _ (by omega), _, rfl, szJ (m := 0 + 100) (n := 1000000) (leJ (by decide +kernel) (by decide +kernel)) hi (by decide), ?_⟩⟩
  refine ⟨show 1 ≤ 1000 by decide, ha, ?_⟩
  refine ⟨_, rfl, _, rfl, a, C, rfl, F.sc.ox, nf, .inl ⟨ha, fun dx nx ne => ?_⟩⟩
  obtain ⟨z1, z2, z3⟩ := put_err (v := .str i) ha nx ne
  exact q _ z1 z2 z3
abbrev s_BadCount___init__ : Stmt := inClass (top 11) 0
abbrev N_BadCount___init__ : List Str := ["self", "count", "__class__"]
abbrev P_BadCount___init__ : List Str := ["self", "count"]
theorem sc_BadCount___init__ : NdefX.NScope N_BadCount___init__ P_BadCount___init__ ["__class__"] (C8.fnScope s_BadCount___init__) := NdefX.nscope_by (by decide +kernel)
theorem ss_BadCount___init__ : SupS (C8.fnScope s_BadCount___init__) (C8.fnArgs s_BadCount___init__) "self" := ⟨by decide +kernel, by decide +kernel, by decide +kernel, _, rfl, rfl⟩
theorem o_BadCount {C : Addr} (nf : PySem.W.findIn K (.ref C) "count" = some none) (EP : SupP P "/claim/cut.py") (hsu : mg "super" = none) (F : SupOf K mg "BadCount" C "BadCount.__init__" s_BadCount___init__ P_BadCount___init__) : OMk P w K mg base 1 "BadCount" C (sp_err C "count" isInt9) := by
  obtain ⟨f, fd, h1, h2, F1, b⟩ := F.ex
  refine ⟨F.sc, F.gl, f, fd, _, h1, h2, fn_sup (k := 0) F1 F.sc EP sc_BadCount___init__ ss_BadCount___init__ rfl hsu (fun vs H Q E h => by obtain ⟨_, _, rfl, _⟩ := h; rfl) (fun cc cd A outer s H vs Q E hr h => ?_), b⟩
  obtain ⟨a, v, rfl, ⟨i, rfl, hi⟩, ha, q⟩ := h
  have nd := sc_BadCount___init__.nd
  refine ⟨_, _, (pa_cons pe_str pa_nil), (pss_one (ps_ost (pv 0) (pv 1))), ?_⟩
  refine ⟨a, rfl, ha, show 1 ≤ 1000 by decide, ha, ?_⟩
  refine ⟨_, rfl, _, rfl, a, C, rfl, F.sc.ox, nf, .inl ⟨ha, fun dx nx ne => ?_⟩⟩
  obtain ⟨z1, z2, z3⟩ := put_err (v := .int i) ha nx ne
  exact q _ z1 z2 z3
abbrev s_OtherMap___init__ : Stmt := inClass (top 6) 0
abbrev N_OtherMap___init__ : List Str := ["self", "__class__"]
abbrev P_OtherMap___init__ : List Str := ["self"]
theorem sc_OtherMap___init__ : NdefX.NScope N_OtherMap___init__ P_OtherMap___init__ ["__class__"] (C8.fnScope s_OtherMap___init__) := NdefX.nscope_by (by decide +kernel)
theorem ss_OtherMap___init__ : SupS (C8.fnScope s_OtherMap___init__) (C8.fnArgs s_OtherMap___init__) "self" := ⟨by decide +kernel, by decide +kernel, by decide +kernel, _, rfl, rfl⟩
theorem o_OtherMap {C : Addr} (EP : SupP P "/claim/cut.py") (hsu : mg "super" = none) (F : SupOf K mg "OtherMap" C "OtherMap.__init__" s_OtherMap___init__ P_OtherMap___init__) : OMk P w K mg base 1 "OtherMap" C (sp_err0 C) := by
  obtain ⟨f, fd, h1, h2, F1, b⟩ := F.ex
  refine ⟨F.sc, F.gl, f, fd, _, h1, h2, fn_sup (k := 0) F1 F.sc EP sc_OtherMap___init__ ss_OtherMap___init__ rfl hsu (fun vs H Q E h => by obtain ⟨_, rfl, _⟩ := h; rfl) (fun cc cd A outer s H vs Q E hr h => ?_), b⟩
  obtain ⟨a, rfl, ha, q⟩ := h
  have nd := sc_OtherMap___init__.nd
  refine ⟨_, _, (pa_cons pe_str pa_nil), pss_nil, ?_⟩
  exact ⟨a, rfl, ha, show 1 ≤ 1000 by decide, ha, q (.no ha)⟩
abbrev s_Endless___init__ : Stmt := inClass (top 7) 0
abbrev N_Endless___init__ : List Str := ["self", "__class__"]
abbrev P_Endless___init__ : List Str := ["self"]
theorem sc_Endless___init__ : NdefX.NScope N_Endless___init__ P_Endless___init__ ["__class__"] (C8.fnScope s_Endless___init__) := NdefX.nscope_by (by decide +kernel)
theorem ss_Endless___init__ : SupS (C8.fnScope s_Endless___init__) (C8.fnArgs s_Endless___init__) "self" := ⟨by decide +kernel, by decide +kernel, by decide +kernel, _, rfl, rfl⟩
theorem o_Endless {C : Addr} (EP : SupP P "/claim/cut.py") (hsu : mg "super" = none) (F : SupOf K mg "Endless" C "Endless.__init__" s_Endless___init__ P_Endless___init__) : OMk P w K mg base 1 "Endless" C (sp_err0 C) := by
  obtain ⟨f, fd, h1, h2, F1, b⟩ := F.ex
  refine ⟨F.sc, F.gl, f, fd, _, h1, h2, fn_sup (k := 0) F1 F.sc EP sc_Endless___init__ ss_Endless___init__ rfl hsu (fun vs H Q E h => by obtain ⟨_, rfl, _⟩ := h; rfl) (fun cc cd A outer s H vs Q E hr h => ?_), b⟩
  obtain ⟨a, rfl, ha, q⟩ := h
  have nd := sc_Endless___init__.nd
  refine ⟨_, _, (pa_cons pe_str pa_nil), pss_nil, ?_⟩
  exact ⟨a, rfl, ha, show 1 ≤ 1000 by decide, ha, q (.no ha)⟩
abbrev s_NotOneTerm___init__ : Stmt := inClass (top 8) 0
abbrev N_NotOneTerm___init__ : List Str := ["self", "__class__"]
abbrev P_NotOneTerm___init__ : List Str := ["self"]
theorem sc_NotOneTerm___init__ : NdefX.NScope N_NotOneTerm___init__ P_NotOneTerm___init__ ["__class__"] (C8.fnScope s_NotOneTerm___init__) := NdefX.nscope_by (by decide +kernel)
theorem ss_NotOneTerm___init__ : SupS (C8.fnScope s_NotOneTerm___init__) (C8.fnArgs s_NotOneTerm___init__) "self" := ⟨by decide +kernel, by decide +kernel, by decide +kernel, _, rfl, rfl⟩
theorem o_NotOneTerm {C : Addr} (EP : SupP P "/claim/cut.py") (hsu : mg "super" = none) (F : SupOf K mg "NotOneTerm" C "NotOneTerm.__init__" s_NotOneTerm___init__ P_NotOneTerm___init__) : OMk P w K mg base 1 "NotOneTerm" C (sp_err0 C) := by
  obtain ⟨f, fd, h1, h2, F1, b⟩ := F.ex
  refine ⟨F.sc, F.gl, f, fd, _, h1, h2, fn_sup (k := 0) F1 F.sc EP sc_NotOneTerm___init__ ss_NotOneTerm___init__ rfl hsu (fun vs H Q E h => by obtain ⟨_, rfl, _⟩ := h; rfl) (fun cc cd A outer s H vs Q E hr h => ?_), b⟩
  obtain ⟨a, rfl, ha, q⟩ := h
  have nd := sc_NotOneTerm___init__.nd
  refine ⟨_, _, (pa_cons pe_str pa_nil), pss_nil, ?_⟩
  exact ⟨a, rfl, ha, show 1 ≤ 1000 by decide, ha, q (.no ha)⟩
abbrev s_NothingToUndo___init__ : Stmt := inClass (top 16) 0
abbrev N_NothingToUndo___init__ : List Str := ["self", "__class__"]
abbrev P_NothingToUndo___init__ : List Str := ["self"]
theorem sc_NothingToUndo___init__ : NdefX.NScope N_NothingToUndo___init__ P_NothingToUndo___init__ ["__class__"] (C8.fnScope s_NothingToUndo___init__) := NdefX.nscope_by (by decide +kernel)
theorem ss_NothingToUndo___init__ : SupS (C8.fnScope s_NothingToUndo___init__) (C8.fnArgs s_NothingToUndo___init__) "self" := ⟨by decide +kernel, by decide +kernel, by decide +kernel, _, rfl, rfl⟩
theorem o_NothingToUndo {C : Addr} (EP : SupP P "/claim/cut.py") (hsu : mg "super" = none) (F : SupOf K mg "NothingToUndo" C "NothingToUndo.__init__" s_NothingToUndo___init__ P_NothingToUndo___init__) : OMk P w K mg base 1 "NothingToUndo" C (sp_err0 C) := by
  obtain ⟨f, fd, h1, h2, F1, b⟩ := F.ex
  refine ⟨F.sc, F.gl, f, fd, _, h1, h2, fn_sup (k := 0) F1 F.sc EP sc_NothingToUndo___init__ ss_NothingToUndo___init__ rfl hsu (fun vs H Q E h => by obtain ⟨_, rfl, _⟩ := h; rfl) (fun cc cd A outer s H vs Q E hr h => ?_), b⟩
  obtain ⟨a, rfl, ha, q⟩ := h
  have nd := sc_NothingToUndo___init__.nd
  refine ⟨_, _, (pa_cons pe_str pa_nil), pss_nil, ?_⟩
  exact ⟨a, rfl, ha, show 1 ≤ 1000 by decide, ha, q (.no ha)⟩
abbrev s_Barred___init__ : Stmt := inClass (top 15) 0
abbrev N_Barred___init__ : List Str := ["self", "names", "__class__"]
abbrev P_Barred___init__ : List Str := ["self", "names"]
theorem sc_Barred___init__ : NdefX.NScope N_Barred___init__ P_Barred___init__ ["__class__"] (C8.fnScope s_Barred___init__) := NdefX.nscope_by (by decide +kernel)
theorem ss_Barred___init__ : SupS (C8.fnScope s_Barred___init__) (C8.fnArgs s_Barred___init__) "self" := ⟨by decide +kernel, by decide +kernel, by decide +kernel, _, rfl, rfl⟩
theorem o_Barred {C : Addr} (T : Txt K mg) (nf : PySem.W.findIn K (.ref C) "names" = some none) (EP : SupP P "/claim/cut.py") (hsu : mg "super" = none) (F : SupOf K mg "Barred" C "Barred.__init__" s_Barred___init__ P_Barred___init__) : OMk P w K mg base 1 "Barred" C (sp_errL K C) := by
  obtain ⟨f, fd, h1, h2, F1, b⟩ := F.ex
  refine ⟨F.sc, F.gl, f, fd, _, h1, h2, fn_sup (k := 0) F1 F.sc EP sc_Barred___init__ ss_Barred___init__ rfl hsu (fun vs H Q E h => by obtain ⟨_, _, _, rfl, _⟩ := h; rfl) (fun cc cd A outer s H vs Q E hr h => ?_), b⟩
  obtain ⟨a, l, xs, rfl, hl, hn, ha, q⟩ := h
  have nd := sc_Barred___init__.nd
  have hi : ((xs.length : Nat) : Int).natAbs.log2 < 1900 := by
    by_cases c : xs.length = 0
    · rw [c]; decide
    · rw [Int.natAbs_natCast, Nat.log2_lt c]
      exact Nat.lt_of_lt_of_le (show xs.length < 2 ^ 14 by omega) (Nat.pow_le_pow_right (by decide) (by decide))
  have n1 := num_len hi
  refine ⟨_, _, (pa_cons (pe_joined (.cons (pe_fmt (pe_callB call_len_seq (by rfl) T.b_len (by decide +kernel) (pa_cons (pv 1) pa_nil))) (.cons pe_str .nil))) pa_nil), (pss_one (ps_ost (pv 0) (pe_callTy call_list_of (by rfl) T.b_list (by decide +kernel) (pa_cons (pv 1) pa_nil)))), ?_⟩
  refine ⟨a, rfl, ha, _, rfl, _, _, rfl, .inl hl, .inr ⟨_, rfl, by omega, _, rfl, szJ (m := 0) (n := 10000) (by decide +kernel) n1 (by decide), _, rfl, szJ (m := 0 + 10000) (n := 100) (leJ (by decide +kernel) n1) (by decide +kernel) (by decide), ?_⟩⟩
  refine ⟨show 1 ≤ 1000 by decide, ha, ?_⟩
  refine ⟨_, rfl, l, xs, rfl, .inl hl, fun p np => ?_⟩
  have ha2 := (Le.new (o := .lst xs) np) _ _ ha
  refine ⟨_, rfl, a, C, rfl, F.sc.ox, nf, .inl ⟨ha2, fun dx nx ne => ?_⟩⟩
  obtain ⟨z1, z2, z3⟩ := put_err (f := "names") (v := .ref p) ha2 nx ne
  have pa : p ≠ a := fun e => by rw [e, ha] at np; cases np
  have lp : Le H (upd H p (.lst xs)) := Le.new np
  exact q _ p (fun b o hb h => z1 b o hb (lp b o h)) (fun b h => lp.none (z2 b h)) np pa (z1 p _ pa upd_self) z3
end
end Od
end
section
set_option Elab.async false
set_option linter.all false
set_option maxRecDepth 100000
set_option maxHeartbeats 2000000
set_option autoImplicit false
namespace Od
open PySem PySem.Spec PyProof.Rows L2
theorem Room.u1 {k : Nat} {A : Around} (r : Room k A) : A.units + 1 < cLine := by have := r.units; omega
/-- list(o.values()) -/
def tListVals (td : TE) : TE := fun σ H Q => td σ H fun x H1 => ∃ a kvs, x = V.ref a ∧ H1 a = some (.dK kvs) ∧ ∀ q, H1 q = none → Q (.ref q) (upd H1 q (.lst (kvs.map (·.2))))
theorem pe_listVals {X : Cx} {o : Expr} {p pos apos mpos : Pos} {td : TE} (hc : X.calm = true) (hg : Gl X "list") (hm : X.mg "list" = none) (hd : PE X o td) (hbase : attributeBase o "values" X.env (eval o X.env) = eval o X.env := by rfl) (hline : (apos.endLine == mpos.line) = true := by rfl)
    (na : starEach [Expr.Call (.Attribute o "values" apos) [] [] mpos] X.env = (false, eval (Expr.Call (.Attribute o "values" apos) [] [] mpos) X.env) :: starEach [] X.env := by rfl) :
    PE X (.Call (.Name "list" p) [.Call (.Attribute o "values" apos) [] [] mpos] [] pos) (tListVals td) := by
  refine ⟨fun pins s σ H Q I h => ?_⟩
  refine Call_ (ld_blt I hg hm boot_list (PyProof.Rows.callWith_type1 (args_cons (wpAny_Call_method0_late hbase hline (thn (hd.run pins s σ H _ I h) fun v s1 ⟨x, H1, I1, r1, a, kvs, ex, ha, q⟩ => ?_)) na) na))
  subst ex
  obtain rfl : v = Value.ref a := r1
  obtain ⟨hz, hsys, vs, rel, dof⟩ := (show ObjOk X.prog X.w H1 s1.heap a (.dK kvs) from I1.hok a _ ha)
  obtain ⟨ep, dat⟩ := dof.dictAt
  have dat' := dat
  obtain ⟨ob, es, ho, ex, hdat, hko, hpr, hnd⟩ := dat'
  refine ⟨"dict", "dict.values", F.plainAttrs_dict, F.slot_dict_values, F.type_dict_values, ⟨ob, ho, ex.1⟩, fun b e => ?_, Calls.callWith_builtin rfl (PySem.evalArgs_none ?_)⟩
  · cases e
    exact ⟨ob, ho, ex.2.1⟩
  refine call_meetsIn F.slot_dict_values ⟨ob, ho, ex.1⟩ F.entry_dict_values (F.args_dict_values_1 _) (meets_dict_values (mixKind X.prog X.w) a hsys) ⟨⟨vs, dof⟩, ?_⟩
  refine args_nil ?_
  have k1 : ∀ b u, s1.heap.get? b = some u → (s1.heap.push { cls := .type "dict_values", data := .fields #[.ref a] }).get? b = some u := fun b u e => Heap.get?_push_of_some _ e
  have dat1 : (s1.heap.push { cls := .type "dict_values", data := .fields #[.ref a] }).DictAt (mixKind X.prog X.w) a vs ep := dat.keep k1
  have hl : kvs.length = vs.length := Paired.length rel
  have I2 : Inv X pins σ H1 { s1 with heap := s1.heap.push { cls := .type "dict_values", data := .fields #[.ref a] } } := I1.kept (t' := s1.toks) k1
  refine PySem.W.kdl_call (PySem.W.kdl_values (knd := mixKind X.prog X.w) (kvs := vs) (ep := ep)) (I2.ok.hd hc) ⟨⟨_, Heap.get?_push_size _ rfl, rfl, rfl⟩, dat1⟩ (by rw [← hl]; exact hz) fun h' tk acc' c' hkeep hS hacc => ?_
  refine ⟨.ref _, upd H1 _ (.lst (kvs.map (·.2))), I2.laid hkeep (Nat.le_refl _) (show ObjOk X.prog X.w _ _ _ (.lst (kvs.map (·.2))) from ⟨?_, acc'.toList, c', ?_, ?_⟩), rfl, q _ (I2.hok.fresh (Nat.le_refl _))⟩
  · rw [List.length_map]; exact hz
  · refine vals_of_at (by have := hacc.1; rw [List.length_map, show acc'.toList.length = acc'.size from Array.length_toList]; omega) fun j x w h1 h2 => ?_
    obtain ⟨k, hky⟩ := hacc.2 j w (by rw [← Array.getElem?_toList]; exact h2)
    obtain ⟨y, h3, h4⟩ := KV.at' rel hky
    rw [List.getElem?_map, h3] at h1
    have : y = x := by simpa using h1
    rw [← this]
    exact h4
  · rw [Array.toArray_toList]; exact hS
/-- .. the written part told, so that a comprehension's block may use them -/
theorem pe_fldK {X : Cx} {K : PySem.W.Frag} {e : Expr} {f : Str} {ta : TE} {pos : Pos} (hK : X.K = K) (h : PE X (.Attribute e f pos) (tFld X.K ta f)) : PE X (.Attribute e f pos) (tFld K ta f) := by
  subst hK
  exact h
theorem pi_listK {X : Cx} {K : PySem.W.Frag} {tg l : Expr} {tl : TE} (hK : X.K = K) (hl : PE X l tl) : PI X tg l (iList K tl) := by
  subst hK
  exact pi_list hl
end Od
end
section
set_option Elab.async false
set_option linter.all false
set_option maxRecDepth 100000
set_option maxHeartbeats 2000000
set_option autoImplicit false
/-! a list compared with an empty one, whatever its items; with one of another length -/
namespace Od
open PySem PySem.Spec PyProof.Rows L2 PySem.SeqAt
section
variable {X : Cx}
def rEqE (K : PySem.W.Frag) (neg : Bool) : R2 := fun x y H Q => ∃ (a b : Addr) (xs ys : List V), x = .ref a ∧ y = .ref b ∧ SqL K H a xs ∧ SqL K H b ys ∧ (xs = [] ∨ ys = []) ∧ Q (.bl (if neg then !decide (xs.length = ys.length) else decide (xs.length = ys.length))) H
theorem isList_of {pins : List (Addr × Obj)} {σ : L2.St} {H : Hp} {s : Shared} {a : Addr} {xs : List V} (I : Inv X pins σ H s) (h : SqL X.K H a xs) : ∃ its : List Value, s.heap.IsList a its.toArray ∧ its.length = xs.length := by
  obtain ⟨its, rv, ⟨o, n, ho, hc, hdn, hd⟩, _⟩ := I.list h
  exact ⟨its, ⟨o, ho, hc, n, hd⟩, rv.length.symm⟩
theorem op_eqE (hu : X.A.units + 64 < cLine) : OpR X (compareOp .Eq) (rEqE X.K false) := by
  intro pins s σ H x y v u Q I rx ry h
  obtain ⟨a, b, xs, ys, rfl, rfl, ha, hb, hxy, q⟩ := h
  obtain rfl : v = Value.ref a := rx
  obtain rfl : u = Value.ref b := ry
  obtain ⟨is, la, ea⟩ := isList_of I ha
  obtain ⟨js, lb, eb⟩ := isList_of I hb
  by_cases c : xs.length = ys.length
  · have hx : xs.length = 0 := by rcases hxy with e | e <;> simp [e] at c ⊢ <;> simp [c]
    have hn : is.toArray.size = 0 := by rw [List.size_toArray, ea, hx]
    refine RcAt.lists (e := fun _ => true) la lb (by rw [List.size_toArray, List.size_toArray]; omega) (by omega) (fun j h1 _ => absurd h1 (by omega)) X.prog X.w _ _ ?_
    refine ⟨.bl _, H, I, ?_, q⟩
    rw [decide_eq_true c, hn]
    rfl
  · refine RcAt.lists_lengths la lb (by rw [List.size_toArray, List.size_toArray, ea, eb]; simpa using c) (by omega) X.prog X.w _ _ ?_
    refine ⟨.bl _, H, I, ?_, q⟩
    rw [decide_eq_false c]
    rfl
theorem op_neE (hu : X.A.units + 64 < cLine) : OpR X (compareOp .NotEq) (rEqE X.K true) := by
  intro pins s σ H x y v u Q I rx ry h
  obtain ⟨a, b, xs, ys, rfl, rfl, ha, hb, hxy, q⟩ := h
  obtain rfl : v = Value.ref a := rx
  obtain rfl : u = Value.ref b := ry
  obtain ⟨is, la, ea⟩ := isList_of I ha
  obtain ⟨js, lb, eb⟩ := isList_of I hb
  by_cases c : xs.length = ys.length
  · have hx : xs.length = 0 := by rcases hxy with e | e <;> simp [e] at c ⊢ <;> simp [c]
    have hn : is.toArray.size = 0 := by rw [List.size_toArray, ea, hx]
    refine RcNeAt.lists (e := fun _ => true) la lb (by rw [List.size_toArray, List.size_toArray]; omega) (by omega) (fun j h1 _ => absurd h1 (by omega)) X.prog X.w _ _ ?_
    refine ⟨.bl _, H, I, ?_, q⟩
    rw [decide_eq_true c, hn]
    rfl
  · refine RcNeAt.lists_lengths la lb (by rw [List.size_toArray, List.size_toArray, ea, eb]; simpa using c) (by omega) X.prog X.w _ _ ?_
    refine ⟨.bl _, H, I, ?_, q⟩
    rw [decide_eq_false c]
    rfl
/-- a dict compared with the empty one -/
def rNeDE : R2 := fun x y H Q => ∃ (a b : Addr) (ks : List (Key × V)), x = .ref a ∧ y = .ref b ∧ H a = some (.dK ks) ∧ H b = some (.dK []) ∧ Q (.bl (!decide (ks.length = 0))) H
theorem op_neDE (hu : X.A.units < cLine) : OpR X (compareOp .NotEq) rNeDE := by
  intro pins s σ H x y v u Q I rx ry h
  obtain ⟨a, b, ks, rfl, rfl, ea, eb, q⟩ := h
  obtain rfl : v = Value.ref a := rx
  obtain rfl : u = Value.ref b := ry
  obtain ⟨_, ya, va, ra, da⟩ := (show ObjOk X.prog X.w H s.heap a (.dK ks) from I.hok a _ ea)
  obtain ⟨_, yb, vb, rb, db⟩ := (show ObjOk X.prog X.w H s.heap b (.dK []) from I.hok b _ eb)
  have hl : va.length = ks.length := ra.length.symm
  have hb : vb.length = 0 := rb.length.symm
  refine PySem.W.keq_ne (knd := mixKind X.prog X.w) (r := true) ya yb da db hu (fun e => hits_all rb ra fun p hp => ?_) ?_
  · have : ks.length = 0 := by omega
    rw [List.eq_nil_of_length_eq_zero this] at hp
    cases hp
  · refine ⟨.bl _, H, I, ?_, q⟩
    show Value.bool _ = _
    rw [hl, hb, Bool.and_true]
    rfl
/-- a if t else b as a test -/
def tIfT (t a b : TT) : TT := fun σ H Q => t σ H fun c H1 => if c = true then a σ H1 Q else b σ H1 Q
theorem pt_ifE {c a b : Expr} {pos : Pos} {t ta tb : TT} (hc : PT X c t) (ha : PT X a ta) (hb : PT X b tb) : PT X (.IfExp c a b pos) (tIfT t ta tb) := by
  refine ⟨fun pins s σ H Q I h => ?_⟩
  have e : isTrue (.IfExp c a b pos) X.env (eval (.IfExp c a b pos) X.env) = (do if ← isTrue c X.env (eval c X.env) then isTrue a X.env (eval a X.env) else isTrue b X.env (eval b X.env)) := by
    first | rfl | simp [isTrue]
  rw [e]
  refine wpAny_bind (thn (hc.run pins s σ H _ I h) fun d s1 ⟨H1, I1, q1⟩ => ?_)
  cases d with
  | true => exact ha.run pins s1 σ H1 Q I1 q1
  | false => exact hb.run pins s1 σ H1 Q I1 q1
end
end Od
end
section
set_option Elab.async false
set_option linter.all false
set_option maxRecDepth 100000
set_option maxHeartbeats 2000000
set_option autoImplicit false
/-! the law's pen -/
namespace Od
open PySem PySem.Spec PyProof.Rows L2 C8 Day
abbrev s__law_pen : Stmt := top 18
abbrev N__law_pen : List Str := ["_law_script"]
abbrev P__law_pen : List Str := ["_law_script"]
theorem sc__law_pen : FnScope N__law_pen P__law_pen (C8.fnScope s__law_pen) := fnScope_by (by decide +kernel)
abbrev s__law_draw : Stmt := top 19
abbrev N__law_draw : List Str := ["_law_pen_here", "_law_span", "_law_digit", "_law_turn", "_law_cell", "_law_mixed"]
abbrev P__law_draw : List Str := ["_law_pen_here", "_law_span"]
theorem sc__law_draw : FnScope N__law_draw P__law_draw (C8.fnScope s__law_draw) := fnScope_by (by decide +kernel)
def penV (dl : Addr) (t l : Int) : List (Key × V) := [(.inr "cells", .ref dl), (.inr "turn", .int t), (.inr "left", .int l)]
theorem pen_cells (dl : Addr) (t l : Int) : valV (penV dl t l) (.inr "cells") = some (.ref dl) := by rfl
theorem pen_turn (dl : Addr) (t l : Int) : valV (penV dl t l) (.inr "turn") = some (.int t) := by rfl
theorem pen_left (dl : Addr) (t l : Int) : valV (penV dl t l) (.inr "left") = some (.int l) := by rfl
theorem put_turn (dl : Addr) (t l x : Int) : putK (penV dl t l) (.inr "turn") (.int x) = penV dl x l := by rfl
theorem put_left (dl : Addr) (t l x : Int) : putK (penV dl t l) (.inr "left") (.int x) = penV dl t x := by rfl
/-- the pen at d: at most n numbers have been taken -/
def IsPen (H : Hp) (d dl : Addr) (n : Int) : Prop := ∃ (cells : List Int) (t l : Int), H d = some (.dK (penV dl t l)) ∧ H dl = some (.lst (cells.map V.int)) ∧ cells.length ≤ 63 ∧ 0 ≤ t ∧ t ≤ n
theorem IsPen.le {H H' : Hp} {d dl : Addr} {n : Int} (p : IsPen H d dl n) (l : Le H H') : IsPen H' d dl n := by
  obtain ⟨cells, t, x, h1, h2, h3⟩ := p
  exact ⟨cells, t, x, l _ _ h1, l _ _ h2, h3⟩
theorem IsPen.lx {H H' : Hp} {d dl D : Addr} {n : Int} (p : IsPen H d dl n) (l : LeX D H H') (h1 : d ≠ D) (h2 : dl ≠ D) : IsPen H' d dl n := by
  obtain ⟨cells, t, x, e1, e2, h3⟩ := p
  exact ⟨cells, t, x, l _ _ h1 e1, l _ _ h2 e2, h3⟩
theorem IsPen.mono {H : Hp} {d dl : Addr} {n m : Int} (p : IsPen H d dl n) (h : n ≤ m) : IsPen H d dl m := by
  obtain ⟨cells, t, x, h1, h2, h3, h4, h5⟩ := p
  exact ⟨cells, t, x, h1, h2, h3, h4, by omega⟩
theorem IsPen.dict {H : Hp} {d dl : Addr} {n : Int} (p : IsPen H d dl n) : ∃ kvs, H d = some (.dK kvs) := by
  obtain ⟨_, _, _, h, _⟩ := p
  exact ⟨_, h⟩
theorem sqL_le {K : PySem.W.Frag} {H H' : Hp} {a : Addr} {xs : List V} (h : SqL K H a xs) (l : Le H H') : SqL K H' a xs := by
  rcases h with (h | ⟨o, h⟩) | h
  · exact .inl (.inl (l _ _ h))
  · exact .inl (.inr ⟨o, l _ _ h⟩)
  · exact .inr h
theorem dget_of {H : Hp} {a : Addr} {kvs : List (Key × V)} {k : Key} {v : V} (e : H a = some (.dK kvs)) (h : valV kvs k = some v) : DGet H a (kV k) (some v) := h ▸ .k e
section
variable {P : Program} {w : World} {K : PySem.W.Frag} {mg : Str → Option Value} {base : Heap}
def sp_pen : Sp := fun vs H Q _ => ∃ (a : Addr) (xs : List Int), vs = [.ref a] ∧ SqL K H a (xs.map V.int) ∧ xs.length ≤ 63 ∧ ∀ d dl H', Le H H' → H d = none → H dl = none → IsPen H' d dl 0 → Q (.ref d) H'
theorem cut63 (xs : List Int) (lo hi : Option Int) : ∃ ys : List Int, cutV (xs.map V.int) lo hi = ys.map V.int ∧ ys.length ≤ xs.length := by
  have h := cutV_length (xs.map V.int) lo hi
  rw [List.length_map] at h
  unfold cutV at h ⊢
  rw [← List.map_drop, ← List.map_take] at h ⊢
  rw [List.length_map] at h
  exact ⟨_, rfl, h⟩
theorem c_pen (T : Txt K mg) (F : DefOf K mg "_law_pen" s__law_pen P__law_pen) : Cal P w K mg base 1 "_law_pen" (sp_pen (K := K)) [] := by
  obtain ⟨f, fd, F, B⟩ := F
  refine cal0 F B .nil sc__law_pen (fun vs H Q E h => by obtain ⟨_, _, rfl, _⟩ := h; rfl) (fun cdv A outer s H vs Q E hr h => ?_)
  obtain ⟨a, xs, rfl, hs, hx, q⟩ := h
  have nd := sc__law_pen.nd
  refine ⟨_, (pss_one (ps_ret (pe_disp (pps_cons pe_str (pe_callTy call_list_of (by rfl) T.b_list (by decide +kernel) (pa_cons (pe_slice sl_list (pv 0) po_none (po_some pe_int)) pa_nil)) (pps_cons pe_str pe_int (pps_cons pe_str pe_int pps_nil))) (by rfl) (by rfl) (by simp) (by decide)))), ?_⟩
  intro d hd
  have hs' : SqL K (upd H d (.dK [])) a (xs.map V.int) := sqL_le hs (Le.new hd)
  obtain ⟨ys, hy, hl⟩ := cut63 xs none (some 63)
  refine ⟨_, rfl, _, rfl, a, _, rfl, hs', fun p1 n1 => ?_⟩
  rw [hy]
  refine ⟨p1, _, rfl, .inl (.of upd_self), fun p2 n2 => ?_⟩
  have nd2 : p2 ≠ d := fun c => by
    rw [c] at n2
    have := (Le.new (o := .lst (ys.map V.int)) n1) d _ (upd_self (H := H) (p := d) (o := .dK []))
    rw [n2] at this
    cases this
  have ed : upd (upd (upd H d (.dK [])) p1 (.lst (ys.map V.int))) p2 (.lst (ys.map V.int)) d = some (.dK []) := ((Le.new n1).trans (Le.new n2)) d _ upd_self
  refine ⟨ed, penV p2 0 0, rfl, (show 3 ≤ 15 by decide), ?_⟩
  have lH : Le H (upd (upd (upd (upd H d (.dK [])) p1 (.lst (ys.map V.int))) p2 (.lst (ys.map V.int))) d (.dK (mergeK [] (penV p2 0 0)))) := (((Le.new hd).trans (Le.new n1)).trans (Le.new n2)).upd hd
  refine q d p2 _ lH hd (((Le.new (o := .dK []) hd).trans (Le.new (o := .lst (ys.map V.int)) n1)).none n2) ⟨ys, 0, 0, upd_self.trans rfl, by rw [upd_ne nd2, upd_self], by omega, by decide, by decide⟩
def sp_draw : Sp := fun vs H Q _ => ∃ (d dl : Addr) (span n : Int), vs = [.ref d, .int span] ∧ IsPen H d dl n ∧ n ≤ 1000000000 ∧ 0 < span ∧ span.natAbs.log2 < 9000 ∧ ∀ r H', LeX d H H' → IsPen H' d dl (n + 1) → 0 ≤ r → r < span → Q (.int r) H'
theorem c_draw (T : Txt K mg) (F : DefOf K mg "_law_draw" s__law_draw P__law_draw) : Cal P w K mg base 1 "_law_draw" sp_draw [] := by
  obtain ⟨f, fd, F, B⟩ := F
  refine cal0 F B .nil sc__law_draw (fun vs H Q E h => by obtain ⟨_, _, _, _, rfl, _⟩ := h; rfl) (fun cdv A outer s H vs Q E hr h => ?_)
  obtain ⟨d, dl, span, n, rfl, ⟨cells, t, l, e1, e2, h3, h4, h5⟩, n1, s0, s1, q⟩ := h
  have nd := sc__law_draw.nd
  have ndl : dl ≠ d := fun c => by rw [c, e1] at e2; cases e2
  refine ⟨_, (C8.pss_cut (ps_if (pt_cmpR op_gt (pe_dget (Room.u1 hr) (pv 0) pe_str (fun _ _ => rfl)) pe_int (nomark _)) (pss_cons (ps_set (i := 2) nd rfl (Or.inl rfl) (pe_op op_mod (pe_callTy call_int1 (by rfl) T.b_int (by decide +kernel) (pa_cons (pe_dget (Room.u1 hr) (pv 0) pe_str (fun _ _ => rfl)) pa_nil)) (pv 1)))
      (pss_cons (ps_dput (Room.u1 hr) (pv 0) pe_str (pe_op op_fdivW (pe_dget (Room.u1 hr) (pv 0) pe_str (fun _ _ => rfl)) (pv 1)) rfl)
      (pss_one (ps_ret (pv 2))))) pss_nil)
      (pss_cons (ps_set (i := 3) nd rfl (Or.inl rfl) (pe_dget (Room.u1 hr) (pv 0) pe_str (fun _ _ => rfl)))
      (pss_cons (ps_dput (Room.u1 hr) (pv 0) pe_str (pe_op op_add (pv 3) pe_int) rfl)
      (pss_cons (ps_set (i := 4) nd rfl (Or.inl rfl) (pe_op op_add (pe_op op_mul pe_int (pv 3)) pe_int))
      (C8.pss_cut (ps_if (pt_cmpR (op_neE hr.units) (pe_dget (Room.u1 hr) (pv 0) pe_str (fun _ _ => rfl)) (pe_lst pa_nil) (nomark _)) (pss_one (ps_set (i := 4) nd rfl (Or.inl rfl) (pe_ix ix_list (pe_dget (Room.u1 hr) (pv 0) pe_str (fun _ _ => rfl)) (pe_op op_mod (pe_callTy call_int1 (by rfl) T.b_int (by decide +kernel) (pa_cons (pv 3) pa_nil)) (pe_callB call_len_seq (by rfl) T.b_len (by decide +kernel) (pa_cons (pe_dget (Room.u1 hr) (pv 0) pe_str (fun _ _ => rfl)) pa_nil))) (fun _ _ => rfl)))) pss_nil)
      (C8.pss_cut (ps_if (PW.pt (pw_and (pt_cmpR op_lt (pv 3) (pe_callB call_len_seq (by rfl) T.b_len (by decide +kernel) (pa_cons (pe_dget (Room.u1 hr) (pv 0) pe_str (fun _ _ => rfl)) pa_nil)) (nomark _)) (pw_and1 (pt_cmpR op_ge (pe_callB call_abs (by rfl) T.b_abs (by decide +kernel) (pa_cons (pv 4) pa_nil)) (pe_op op_pow pe_int pe_int) (nomark _))))) (pss_cons (ps_dput (Room.u1 hr) (pv 0) pe_str (pe_op op_fdivW (pe_op op_sub (pe_callB call_abs (by rfl) T.b_abs (by decide +kernel) (pa_cons (pv 4) pa_nil)) (pe_op op_pow pe_int pe_int)) (pv 1)) rfl)
      (pss_one (ps_ret (pe_op op_mod (pe_callTy call_int1 (by rfl) T.b_int (by decide +kernel) (pa_cons (pe_op op_sub (pe_callB call_abs (by rfl) T.b_abs (by decide +kernel) (pa_cons (pv 4) pa_nil)) (pe_op op_pow pe_int pe_int)) pa_nil)) (pv 1))))) pss_nil)
      (pss_cons (ps_set (i := 5) nd rfl (Or.inl rfl) (pe_op op_mul (pe_op op_mod (pe_callTy call_int1 (by rfl) T.b_int (by decide +kernel) (pa_cons (pv 4) pa_nil)) pe_int) pe_int))
      (pss_cons (ps_set (i := 5) nd rfl (Or.inl rfl) (pe_op op_mod (pe_callTy call_int1 (by rfl) T.b_int (by decide +kernel) (pa_cons (pe_op op_add (pe_op op_add (pv 5) (pe_op op_mul (pv 3) (pe_op op_add (pe_op op_mul (pv 3) pe_int) pe_int))) pe_int) pa_nil)) pe_int))
      (pss_cons (ps_set (i := 5) nd rfl (Or.inl rfl) (pe_op op_mod (pe_callTy call_int1 (by rfl) T.b_int (by decide +kernel) (pa_cons (pe_op op_mul (pv 5) (pe_op op_add (pv 5) pe_int)) pa_nil)) pe_int))
      (pss_cons (ps_set (i := 5) nd rfl (Or.inl rfl) (pe_op op_mod (pe_callTy call_int1 (by rfl) T.b_int (by decide +kernel) (pa_cons (pe_op op_add (pe_op op_add (pe_op op_mul (pv 5) (pv 5)) (pe_op op_mul pe_int (pv 5))) (pe_op op_mul pe_int (pv 3))) pa_nil)) pe_int))
      (pss_one (ps_ret (pe_op op_mod (pe_callTy call_int1 (by rfl) T.b_int (by decide +kernel) (pa_cons (pe_op op_fdivW (pe_op op_mod (pe_callTy call_int1 (by rfl) T.b_int (by decide +kernel) (pa_cons (pe_op op_mul (pv 5) (pe_op op_add (pv 5) pe_int)) pa_nil)) pe_int) pe_int) pa_nil)) (pv 1)))))))))))))), ?_⟩
  have lx : ∀ (H0 : Hp) o, LeX d H H0 → LeX d H (upd H0 d o) := fun H0 o l => l.upd
  have m0 : ∀ x : Int, 0 ≤ x % span ∧ x % span < span := fun x => ⟨Int.emod_nonneg x (by omega), Int.emod_lt_of_pos x s0⟩
  refine ⟨fun σ' H' => H' = H ∧ σ' = [some (.ref d), some (.int span), none, none, none, none], ?_, ?_⟩
  rotate_left
  · rintro σ' H' ⟨eH, rfl⟩
    have eH := eH.symm
    subst eH
    refine ⟨_, rfl, d, _, rfl, dget_of e1 (pen_turn _ _ _), ?_⟩
    refine ⟨_, rfl, _, _, rfl, rfl, _, rfl, d, _, rfl, .k (k := .inr "turn") e1 (le_szl 4 (by decide)), ?_⟩
    have E1 : upd H d (.dK (putK (penV dl t l) (.inr "turn") (.int (t + 1)))) d = some (.dK (penV dl (t + 1) l)) := by rw [upd_self, put_turn]
    have E2 : upd H d (.dK (putK (penV dl t l) (.inr "turn") (.int (t + 1)))) dl = some (.lst (cells.map V.int)) := by rw [upd_ne ndl]; exact e2
    have L1 : LeX d H (upd H d (.dK (putK (penV dl t l) (.inr "turn") (.int (t + 1))))) := lx _ _ Le.refl.x
    generalize upd H d (.dK (putK (penV dl t l) (.inr "turn") (.int (t + 1)))) = H1 at *
    refine ⟨_, rfl, _, _, rfl, rfl, .inl ⟨by decide, by decide⟩, _, _, rfl, rfl, ?_⟩
    -- the cell
    refine ⟨fun σ' H' => Le H1 H' ∧ ∃ (cell : Int) (x : Option V), σ' = [some (.ref d), some (.int span), x, some (.int t), some (.int cell), none], ?_, ?_⟩
    · refine ⟨_, rfl, d, _, rfl, dget_of E1 (pen_cells _ _ _), Nat.zero_le _, fun q1 n1 => ?_⟩
      have E3 := (Le.new (o := .lst []) n1) _ _ E2
      have E4 := (Le.new (o := .lst []) n1) _ _ E1
      refine ⟨dl, q1, _, _, rfl, rfl, .of E3, .of upd_self, .inr rfl, _, rfl, ?_⟩
      refine ite2 (fun c => ?_) (fun c => ?_)
      · have hne : cells ≠ [] := fun e => by rw [e] at c; cases c
        have hpos := List.length_pos_iff.mpr hne
        have c0 : (0 : Int) < ((cells.map V.int).length : Int) := by rw [List.length_map]; omega
        have b1 := Int.emod_nonneg t (show ((cells.map V.int).length : Int) ≠ 0 by omega)
        have b2 := Int.emod_lt_of_pos t c0
        have hi : (t % ((cells.map V.int).length : Int)).toNat < cells.length := by rw [List.length_map] at *; omega
        refine ⟨_, rfl, d, _, rfl, dget_of E4 (pen_cells _ _ _), _, rfl, .inl ⟨_, rfl, _, rfl, d, _, rfl, dget_of E4 (pen_cells _ _ _), _, _, rfl, .inl (.of E3), _, _, rfl, rfl, c0, ?_⟩⟩
        refine ⟨_, _, _, .int cells[(t % ((cells.map V.int).length : Int)).toNat], rfl, rfl, .of E3, ?_, Le.new n1, _, _, rfl⟩
        have := atI_nat (xs := cells.map V.int) (j := (t % ((cells.map V.int).length : Int)).toNat) (v := .int cells[(t % ((cells.map V.int).length : Int)).toNat]) (by rw [List.getElem?_map, List.getElem?_eq_getElem hi]; rfl)
        rwa [show (((t % ((cells.map V.int).length : Int)).toNat : Nat) : Int) = t % ((cells.map V.int).length : Int) by omega] at this
      · exact ⟨Le.new n1, _, _, rfl⟩
    rintro σ' H2 ⟨le, cell, x, rfl⟩
    have E5 := le _ _ E1
    have E6 := le _ _ E2
    have L2 : LeX d H H2 := fun a o h1 h2 => le _ _ (L1 a o h1 h2)
    have plain : IsPen H2 d dl (n + 1) := ⟨cells, t + 1, l, E5, E6, h3, by omega, by omega⟩
    refine ⟨fun σ' H' => H' = H2 ∧ σ' = [some (.ref d), some (.int span), x, some (.int t), some (.int cell), none], ?_, ?_⟩
    · refine ⟨_, rfl, _, rfl, d, _, rfl, dget_of E5 (pen_cells _ _ _), _, _, rfl, .inl (.of E6), _, _, rfl, rfl, _, rfl, ?_⟩
      refine ite2 (fun c => ?_) (fun c => ⟨rfl, rfl⟩)
      refine ⟨_, rfl, _, rfl, _, _, rfl, rfl, ⟨by decide, by decide, by decide⟩, _, _, rfl, rfl, _, rfl, ?_⟩
      refine ite2 (fun c => ?_) (fun c => ⟨rfl, rfl⟩)
      refine ⟨_, rfl, _, rfl, _, _, rfl, rfl, ⟨by decide, by decide, by decide⟩, _, _, rfl, rfl, _, rfl, _, _, rfl, rfl, ⟨s0, s1⟩, _, rfl, d, _, rfl, .k (k := .inr "left") E5 (le_szl 4 (by decide)), ?_⟩
      refine ⟨_, rfl, _, rfl, _, _, rfl, rfl, ⟨by decide, by decide, by decide⟩, _, _, rfl, rfl, .inl ⟨_, rfl, _, rfl, _, _, rfl, rfl, s0, ?_⟩⟩
      refine q _ _ (lx _ _ L2) ?_ (m0 _).1 (m0 _).2
      refine ⟨cells, t + 1, _, (upd_self).trans rfl, by rw [upd_ne ndl]; exact E6, h3, by omega, by omega⟩
    rintro σ' H3 ⟨rfl, rfl⟩
    have p1 : ∀ a b : Int, 0 < b → 0 ≤ a % b ∧ a % b < b := fun a b hb => ⟨Int.emod_nonneg a (by omega), Int.emod_lt_of_pos a hb⟩
    refine ⟨_, rfl, .inl ⟨_, rfl, _, _, rfl, rfl, (show (0 : Int) < 4294967087 by decide), _, _, rfl, rfl, .inr ⟨by decide, by decide⟩, ?_⟩⟩
    refine ⟨_, rfl, _, rfl, _, rfl, _, _, rfl, rfl, .inr ⟨by decide, by decide⟩, _, _, rfl, rfl, _, _, rfl, rfl, .inl ⟨by omega, by omega⟩, _, _, rfl, rfl, _, _, rfl, rfl, .inl ⟨_, rfl, _, _, rfl, rfl, (show (0 : Int) < 4294967029 by decide), ?_⟩⟩
    refine ⟨_, rfl, _, rfl, _, _, rfl, rfl, _, _, rfl, rfl, .inl ?_, .inl ⟨_, rfl, _, _, rfl, rfl, (show (0 : Int) < 4294966997 by decide), ?_⟩⟩
    · have := p1 (cell % 4294967087 * 48611 + t * (t * 27919 + 10601) + 41) 4294967029 (by decide)
      exact ⟨by omega, by omega⟩
    generalize hx : (_ : Int) * (_ + 75013) = xx
    have b1 := p1 xx 4294966997 (by decide)
    refine ⟨_, rfl, _, rfl, _, _, rfl, rfl, .inl ⟨by omega, by omega⟩, _, rfl, _, _, rfl, rfl, .inl ⟨by decide, by decide⟩, _, _, rfl, rfl, _, rfl, _, _, rfl, rfl, .inl ⟨by decide, by decide⟩, _, _, rfl, rfl, .inl ⟨_, rfl, _, _, rfl, rfl, (show (0 : Int) < 4294966981 by decide), ?_⟩⟩
    generalize hy : (_ : Int) + 19 * t = yy
    have b2 := p1 yy 4294966981 (by decide)
    refine ⟨_, rfl, _, rfl, _, _, rfl, rfl, _, _, rfl, rfl, .inl ⟨by omega, by omega⟩, .inl ⟨_, rfl, _, _, rfl, rfl, (show (0 : Int) < 4294966943 by decide), _, _, rfl, rfl, ⟨by decide, by decide⟩, .inl ⟨_, rfl, _, rfl, _, _, rfl, rfl, s0, ?_⟩⟩⟩
    exact q _ _ L2 plain (m0 _).1 (m0 _).2
  refine ⟨_, rfl, d, _, rfl, dget_of e1 (pen_left _ _ _), _, _, rfl, rfl, _, rfl, ?_⟩
  refine ite2 (fun c => ?_) (fun c => ⟨rfl, rfl⟩)
  · refine ⟨_, rfl, d, _, rfl, dget_of e1 (pen_left _ _ _), .inl ⟨_, rfl, _, rfl, _, _, rfl, rfl, s0, ?_⟩⟩
    refine ⟨_, rfl, d, _, rfl, dget_of e1 (pen_left _ _ _), _, rfl, _, _, rfl, rfl, ⟨s0, s1⟩, _, rfl, d, _, rfl, .k (k := .inr "left") e1 (le_szl 4 (by decide)), ?_⟩
    refine ⟨_, rfl, q _ _ (lx _ _ Le.refl.x) ?_ (m0 l).1 (m0 l).2⟩
    refine ⟨cells, t, l / span, ?_, by rw [upd_ne ndl]; exact e2, h3, h4, by omega⟩
    rw [upd_self]
    rfl
end
end Od
namespace Od
open PySem PySem.Spec PyProof.Rows L2 C8 Day
/-- all but two stands -/
def LeXX (d D : Addr) (H H' : Hp) : Prop := ∀ a o, a ≠ d → a ≠ D → H a = some o → H' a = some o
theorem LeX.tr {D : Addr} {H H1 H2 : Hp} (a : LeX D H H1) (b : LeX D H1 H2) : LeX D H H2 := fun x o c h => b x o c (a x o c h)
/-- a comprehension whose turns take numbers from the pen: at most c a turn -/
theorem lc_pen {J : It} {n : Nat} {G : Hp → Prop} {Y : Nat → Hp → V → Hp → Prop} (w : Walk J n G Y) {g : TG} {tt : TT} {te : TE} {vs : List Nat} {σ : L2.St} {H1 : Hp} {D d dl : Addr} {N0 c : Int} {Qd : Hp → Prop} (hD : H1 D = none) (hp : IsPen H1 d dl N0) (hn : n ≤ sizeLine)
    (hG : ∀ H, LeX d H1 H → G H) (hY : ∀ i H x H', Y i H x H' → Le H H') (R : Option V → Hp → Prop) (hR : ∀ r H H', LeXX d D H H' → (∃ acc, H D = some (.lst acc)) → (∃ kvs, H d = some (.dK kvs)) → R r H → R r H')
    (hs : ∀ i x H H', i < n → LeX d H1 H → (∃ acc, H D = some (.lst acc)) → IsPen H' d dl (N0 + (i : Nat) * c) → Y i H x H' → ∀ N : Option V → Hp → Prop, (∀ r H2, LeX d H' H2 → IsPen H2 d dl (N0 + (i : Nat) * c + c) → R r H2 → N r H2) → g x (wipe σ vs) H' fun σ2 H2 => wipe σ2 vs = wipe σ vs ∧ tt σ2 H2 fun b H3 => if b = true then te σ2 H3 fun y H4 => N (some y) H4 else N none H3)
    (hd : ∀ H (rs : List (Option V)), LeX d H1 H → IsPen H d dl (N0 + (n : Nat) * c) → rs.length = n → (∀ r ∈ rs, R r H) → H D = some (.lst (rs.filterMap id)) → Qd H) :
    ∃ W : Nat → Nat → Hp → Prop, (∃ m, W 0 m (upd H1 D (.lst []))) ∧ ∀ i m H, W i m H →
      (J.stop i H ∧ Qd H) ∨ (J.go i H ∧ ∃ Nx : Hp → Prop, (∀ H', Nx H' → ∃ m', m' < m ∧ W (i + 1) m' H') ∧ ∀ x H', J.yld i H x H' → g x (wipe σ vs) H' fun σ2 H2 => wipe σ2 vs = wipe σ vs ∧ tt σ2 H2 fun b H3 =>
        if b = true then te σ2 H3 fun y H4 => ∃ acc, H4 D = some (.lst acc) ∧ acc.length < sizeLine ∧ Nx (upd H4 D (.lst (acc ++ [y]))) else Nx H3) := by
  have hdD : d ≠ D := fun e => by
    obtain ⟨_, _, _, h1, _⟩ := hp
    rw [e, hD] at h1; cases h1
  have hlD : dl ≠ D := fun e => by
    obtain ⟨_, _, _, _, h1, _⟩ := hp
    rw [e, hD] at h1; cases h1
  have one : ∀ i : Nat, N0 + (i : Nat) * c + c = N0 + ((i + 1 : Nat) : Int) * c := fun i => by
    rw [Int.natCast_add, Int.add_mul]; simp; omega
  have penK : ∀ {H : Hp} {m : Int}, IsPen H d dl m → ∃ kvs, H d = some (.dK kvs) := fun h => by
    obtain ⟨_, _, _, h1, _⟩ := h
    exact ⟨_, h1⟩
  refine lc_it w (fun i H => LeX d H1 H ∧ IsPen H d dl (N0 + (i : Nat) * c) ∧ ∃ rs : List (Option V), rs.length = i ∧ (∀ r ∈ rs, R r H) ∧ H D = some (.lst (rs.filterMap id))) ⟨(Le.new hD).x, (hp.le (Le.new hD)).mono (by simp), [], rfl, fun r h => by simp at h, upd_self⟩ (fun i H _ p => hG H p.1) ?_ ?_
  · rintro i x H H' hi ⟨lx, pn, rs, hl, hr, e⟩ hy
    have l2 := hY i H x H' hy
    have eD : H' D = some (.lst (rs.filterMap id)) := l2 D _ e
    have lenf : (rs.filterMap id).length ≤ i := by rw [← hl]; exact List.length_filterMap_le _ _
    have st := hs i x H H' hi lx ⟨_, e⟩ (pn.le l2) hy (fun r H4 => match r with
      | some y => ∃ acc, H4 D = some (.lst acc) ∧ acc.length < sizeLine ∧ (LeX d H1 (upd H4 D (.lst (acc ++ [y]))) ∧ IsPen (upd H4 D (.lst (acc ++ [y]))) d dl (N0 + ((i + 1 : Nat) : Int) * c) ∧ ∃ rs' : List (Option V), rs'.length = i + 1 ∧ (∀ r ∈ rs', R r (upd H4 D (.lst (acc ++ [y])))) ∧ upd H4 D (.lst (acc ++ [y])) D = some (.lst (rs'.filterMap id)))
      | none => LeX d H1 H4 ∧ IsPen H4 d dl (N0 + ((i + 1 : Nat) : Int) * c) ∧ ∃ rs' : List (Option V), rs'.length = i + 1 ∧ (∀ r ∈ rs', R r H4) ∧ H4 D = some (.lst (rs'.filterMap id))) ?_
    · exact st
    · intro r H2 l3 p3 hr2
      have eD2 := l3 D _ hdD.symm eD
      have k1 : LeX d H1 H2 := (lx.tr l2.x).tr l3
      have old : ∀ q ∈ rs, R q H2 := fun q hq => hR q H H2 (fun a o h1 _ h => (l2.x.tr l3) a o h1 h) ⟨_, e⟩ (penK pn) (hr q hq)
      rw [one] at p3
      cases r with
      | none =>
        refine ⟨k1, p3, rs ++ [none], by simp [hl], fun q hq => ?_, by simpa using eD2⟩
        rcases List.mem_append.mp hq with h | h
        · exact old q h
        · rw [List.mem_singleton.mp h]; exact hr2
      | some y =>
        have lxx : ∀ o, LeXX d D H2 (upd H2 D o) := fun o a u _ h2 h => by rw [upd_ne h2]; exact h
        refine ⟨_, eD2, by omega, fun a o h1 h => ?_, p3.lx (Le.refl.x.upd) hdD hlD, rs ++ [some y], by simp [hl], fun q hq => ?_, by rw [upd_self]; simp⟩
        · by_cases c : a = D
          · subst c; rw [hD] at h; cases h
          · rw [upd_ne c]; exact k1 a o h1 h
        · rcases List.mem_append.mp hq with h | h
          · exact hR q H2 _ (lxx _) ⟨_, eD2⟩ (penK p3) (old q h)
          · rw [List.mem_singleton.mp h]; exact hR _ H2 _ (lxx _) ⟨_, eD2⟩ (penK p3) hr2
  · rintro H ⟨lx, pn, rs, hl, hr, e⟩
    exact hd H rs lx pn hl hr e
theorem lg9 : ∀ x : Int, 0 < x → x < 100000000 → x.natAbs.log2 < 9000 := fun x h0 h => by
  have h1 : x.natAbs ≠ 0 := by omega
  have := (Nat.log2_lt h1).mpr (show x.natAbs < 2 ^ 27 by omega)
  omega
theorem IsPen.ne {H : Hp} {d dl p : Addr} {n : Int} (pn : IsPen H d dl n) {xs : List V} (h : H p = some (.lst xs)) : p ≠ d := fun c => by
  obtain ⟨kvs, e⟩ := pn.dict
  rw [c, e] at h
  cases h
theorem at_mem {α : Type} {xs : List α} {r : Int} (h0 : 0 ≤ r) (h1 : r < xs.length) : ∃ v ∈ xs, atI xs r = some v := by
  have h2 : r.toNat < xs.length := by omega
  refine ⟨xs[r.toNat], List.getElem_mem h2, ?_⟩
  have := atI_nat (xs := xs) (j := r.toNat) (v := xs[r.toNat]) (List.getElem?_eq_getElem h2)
  rwa [show ((r.toNat : Nat) : Int) = r by omega] at this
end Od
end
section
set_option Elab.async false
set_option linter.all false
set_option maxRecDepth 100000
set_option maxHeartbeats 2000000
/-! {k: v for a in xs for b in ys}: a dict comprehension of two clauses (the one of one clause: HandS.DictComp; the list of two: HandS.Comp) -/
namespace Od
open PySem PySem.Spec PyProof.Rows L2
theorem compTurn2_outD (kx vx t0 i0 t1 i1 : Expr) (ifs0 ifs1 : List Expr) (scope : Scope) (pos : Pos) (it acc : Value) (env : Env) :
    compTurn (.DictComp kx vx [⟨t0, i0, ifs0, 0⟩, ⟨t1, i1, ifs1, 0⟩] scope pos) 0 it acc env = (do
      standAt i0.pos
      match ← pyNext it with
      | none => pure (.done .next)
      | some v =>
        letOwnedTupleGo t0 it v
        assign t0 env v
        let mut ok := true
        for c in ifs0 do
          if ok then ok ← isTrue c env (eval c env)
        if ok then
          let x ← eval i1 env
          standAt i1.pos
          let x ← foldedSetIterable i1 env x
          let _ ← runOwn (.compStart (.DictComp kx vx [⟨t0, i0, ifs0, 0⟩, ⟨t1, i1, ifs1, 0⟩] scope pos) 1 (← holding [x] (pyIter x)) acc env) env
        again (.compLoop (.DictComp kx vx [⟨t0, i0, ifs0, 0⟩, ⟨t1, i1, ifs1, 0⟩] scope pos) 0 it acc env)) := by rfl
theorem compTurn2_inD (kx vx t0 i0 t1 i1 : Expr) (ifs0 ifs1 : List Expr) (scope : Scope) (pos : Pos) (it : Value) (D : Addr) (env : Env) :
    compTurn (.DictComp kx vx [⟨t0, i0, ifs0, 0⟩, ⟨t1, i1, ifs1, 0⟩] scope pos) 1 it (.ref D) env = (do
      standAt i1.pos
      match ← pyNext it with
      | none => pure (.done .next)
      | some v =>
        letOwnedTupleGo t1 it v
        assign t1 env v
        let mut ok := true
        for c in ifs1 do
          if ok then ok ← isTrue c env (eval c env)
        if ok then
          (do
            let kv ← eval kx env
            let vv ← holding [kv] (eval vx env)
            standAt { kx.pos with endLine := vx.pos.endLine, endCol := vx.pos.endCol }
            holding [kv, vv] (dictSet D kv vv))
        again (.compLoop (.DictComp kx vx [⟨t0, i0, ifs0, 0⟩, ⟨t1, i1, ifs1, 0⟩] scope pos) 1 it (.ref D) env)) := by rfl

section
variable {prog : Program} {w : World} {A : Around} {R : Result → Shared → Prop} {s : Shared} {kx vx t0 i0 t1 i1 : Expr} {ifs0 ifs1 : List Expr} {scope : Scope} {pos : Pos} {it acc : Value} {env : Env}
/-- the loop of the first clause -/
theorem compLoop2_outD (hs : ∀ x, foldedSetIterable i1 env x = pure x) (I : Nat → Shared → Prop)
    (turn : ∀ n s, I n s → wpAny (model prog w) A (pyNext it) (fun r s₁ => match r with
      | none => R (.ok .next) s₁
      | some v => wpAny (model prog w) A (letOwnedTupleGo t0 it v) (fun _ s₁' => wpAny (model prog w) A (assign t0 env v) (fun _ s₂ =>
          wpAny (model prog w) A (forIn ifs0 true fun c r => if r = true then do let ok ← isTrue c env (eval c env); pure (ForInStep.yield ok) else pure (ForInStep.yield r)) (fun ok s₃ =>
            if ok = true then wpAny (model prog w) A (eval i1 env) (fun x s₄ => wpAny (model prog w) A (pyIter x) (fun it1 s₅ =>
              codeAny (model prog w) A (.compStart (.DictComp kx vx [⟨t0, i0, ifs0, 0⟩, ⟨t1, i1, ifs1, 0⟩] scope pos) 1 it1 acc env) (fun r s' => match r with
                | .ok _ => ∃ m, m < n ∧ I m s'
                | .error _ => False) s₅) (notedBy (model prog w) A env fun e s' => R (.error e) s') s₄) (notedBy (model prog w) A env fun e s' => R (.error e) s') s₃
            else ∃ m, m < n ∧ I m s₃) (notedBy (model prog w) A env fun e s' => R (.error e) s') s₂) (notedBy (model prog w) A env fun e s' => R (.error e) s') s₁') (notedBy (model prog w) A env fun e s' => R (.error e) s') s₁) (notedBy (model prog w) A env fun e s' => R (.error e) s') s)
    (n : Nat) (h : I n s) :
    codeAny (model prog w) A (.compLoop (.DictComp kx vx [⟨t0, i0, ifs0, 0⟩, ⟨t1, i1, ifs1, 0⟩] scope pos) 0 it acc env) R s := by
  refine codeAny_loop rfl I (fun n s hI => ?_) n h
  show wpAny _ A ((compTurn (.DictComp kx vx [⟨t0, i0, ifs0, 0⟩, ⟨t1, i1, ifs1, 0⟩] scope pos) 0 it acc env).onRaise (fun x => do noteFrame x env; theTreesLotGoes x)) _ _ s
  refine wpAny_noted ?_
  rw [compTurn2_outD]
  refine wpAny_bind (wpAny_standAt (wpAny_bind (wpAny_mono (turn n s hI) (fun r s₁ h₁ => ?_) fun _ _ h' => h')))
  cases r with
  | none => exact wpAny_pure h₁
  | some v =>
    refine wpAny_bind (wpAny_mono h₁ (fun _ s₁' h₁' => ?_) fun _ _ h' => h')
    refine wpAny_bind (wpAny_mono h₁' (fun _ s₂ h₂ => wpAny_bind (wpAny_mono h₂ (fun ok s₃ h₃ => ?_) fun _ _ h' => h')) fun _ _ h' => h')
    cases ok with
    | false => exact wpAny_pure ⟨rfl, h₃⟩
    | true =>
      refine wpAny_bind (wpAny_mono h₃ (fun x s₄ h₄ => ?_) fun _ _ h' => h')
      refine wpAny_bind (wpAny_standAt (wpAny_bind (wpAny_of_eq (hs x) (wpAny_bind (wpAny_holding (wpAny_mono h₄ (fun it1 s₅ h₅ => ?_) fun _ _ h' => h'))))))
      refine wpAny_bind (wpAny_runOwn ?_)
      rw [Around.mark_none]
      refine codeAny_mono h₅ fun r s' hr => ?_
      cases r with
      | ok f =>
        first
          | exact wpAny_pure ⟨rfl, hr⟩
          | exact wpAny_bind (wpAny_pure (wpAny_pure ⟨rfl, hr⟩))
      | error e => exact hr.elim
/-- the loop of the second -/
theorem compLoop2_inD {D : Addr} (I : Nat → Shared → Prop)
    (turn : ∀ n s, I n s → wpAny (model prog w) A (pyNext it) (fun r s₁ => match r with
      | none => R (.ok .next) s₁
      | some v => wpAny (model prog w) A (letOwnedTupleGo t1 it v) (fun _ s₁' => wpAny (model prog w) A (assign t1 env v) (fun _ s₂ =>
          wpAny (model prog w) A (forIn ifs1 true fun c r => if r = true then do let ok ← isTrue c env (eval c env); pure (ForInStep.yield ok) else pure (ForInStep.yield r)) (fun ok s₃ =>
            if ok = true then wpAny (model prog w) A (eval kx env) (fun kv s₄ => wpAny (model prog w) A (eval vx env) (fun vv s₅ =>
              wpAny (model prog w) A (dictSet D kv vv) (fun _ s₆ => ∃ m, m < n ∧ I m s₆) (notedBy (model prog w) A env fun e s' => R (.error e) s') s₅) (notedBy (model prog w) A env fun e s' => R (.error e) s') s₄) (notedBy (model prog w) A env fun e s' => R (.error e) s') s₃
            else ∃ m, m < n ∧ I m s₃) (notedBy (model prog w) A env fun e s' => R (.error e) s') s₂) (notedBy (model prog w) A env fun e s' => R (.error e) s') s₁') (notedBy (model prog w) A env fun e s' => R (.error e) s') s₁) (notedBy (model prog w) A env fun e s' => R (.error e) s') s)
    (n : Nat) (h : I n s) :
    codeAny (model prog w) A (.compLoop (.DictComp kx vx [⟨t0, i0, ifs0, 0⟩, ⟨t1, i1, ifs1, 0⟩] scope pos) 1 it (.ref D) env) R s := by
  refine codeAny_loop rfl I (fun n s hI => ?_) n h
  show wpAny _ A ((compTurn (.DictComp kx vx [⟨t0, i0, ifs0, 0⟩, ⟨t1, i1, ifs1, 0⟩] scope pos) 1 it (.ref D) env).onRaise (fun x => do noteFrame x env; theTreesLotGoes x)) _ _ s
  refine wpAny_noted ?_
  rw [compTurn2_inD]
  refine wpAny_bind (wpAny_standAt (wpAny_bind (wpAny_mono (turn n s hI) (fun r s₁ h₁ => ?_) fun _ _ h' => h')))
  cases r with
  | none => exact wpAny_pure h₁
  | some v =>
    refine wpAny_bind (wpAny_mono h₁ (fun _ s₁' h₁' => ?_) fun _ _ h' => h')
    refine wpAny_bind (wpAny_mono h₁' (fun _ s₂ h₂ => wpAny_bind (wpAny_mono h₂ (fun ok s₃ h₃ => ?_) fun _ _ h' => h')) fun _ _ h' => h')
    cases ok with
    | false => exact wpAny_pure ⟨rfl, h₃⟩
    | true =>
      exact wpAny_bind (wpAny_bind (wpAny_mono h₃ (fun kv s₄ h₄ => wpAny_bind (wpAny_holding (wpAny_mono h₄ (fun vv s₅ h₅ => wpAny_bind (wpAny_standAt (wpAny_holding (wpAny_mono h₅ (fun _ s₆ h₆ => wpAny_pure ⟨rfl, h₆⟩) fun _ _ h' => h')))) fun _ _ h' => h'))) fun _ _ h' => h'))
/-- the second clause's start -/
theorem compStart1_okD (h0 : codeAny (model prog w) A (.compLoop (.DictComp kx vx [⟨t0, i0, ifs0, 0⟩, ⟨t1, i1, ifs1, 0⟩] scope pos) 1 it acc env) R s)
    (h : wpAny (model prog w) A (pyIter it) (fun it' s' => codeAny (model prog w) A (.compLoop (.DictComp kx vx [⟨t0, i0, ifs0, 0⟩, ⟨t1, i1, ifs1, 0⟩] scope pos) 1 it' acc env) R s')
      (notedBy (model prog w) A env fun x s' => R (.error x) s') s) :
    codeAny (model prog w) A (.compStart (.DictComp kx vx [⟨t0, i0, ifs0, 0⟩, ⟨t1, i1, ifs1, 0⟩] scope pos) 1 it acc env) R s := by
  refine codeAny_of_tree ?_
  show wpAny _ _ ((compStart (.DictComp kx vx [⟨t0, i0, ifs0, 0⟩, ⟨t1, i1, ifs1, 0⟩] scope pos) 1 it acc env).onRaise (fun x => do noteFrame x env; standAt theWindowsPlace)) _ _ s
  refine wpAny_notedAt ?_
  unfold compStart
  show wpAny _ _ (ask >>= _) _ _ s
  refine wpAny_bind (wpAny_askSetting (wpAny_ite ?_))
  split
  · first
      | exact wpAny_bind (wpAny_pure (wpAny_pure (And.intro rfl h0)))
      | exact wpAny_pure (And.intro rfl h0)
  · first
      | exact wpAny_bind (wpAny_rule (wpAny_bind (wpAny_standAt (wpAny_bind (wpAny_mono h (fun it' s' h' => wpAny_pure (And.intro rfl h')) fun _ _ x => x)))))
      | (refine wpAny_bind (wpAny_rule ?_); show wpAny _ _ (standAt i1.pos >>= _) _ _ s; exact wpAny_bind (wpAny_standAt (wpAny_bind (wpAny_mono h (fun it' s' h' => wpAny_pure (And.intro rfl h')) fun _ _ x => x))))
end

section
variable {X : Cx}
/-- [elt for tg in iter if .. for tg1 in iter1 if ..]: behind the first clause's store and tests the second source's own loop, from which Nx is reached. vs: the block's names; vs1: those of the second target -/
def tLc2D (wi : TI) (g : TG) (tt : TT) (wi1 : TI) (g1 : TG) (tt1 : TT) (tk tv : TE) (vs vs1 : List Nat) : TE := fun σ H Q => wi σ H fun J H1 => ∀ D, H1 D = none → ∃ W : Nat → Nat → Hp → Prop, (∃ m, W 0 m (upd H1 D (.dK []))) ∧ ∀ i m H, W i m H →
  (J.stop i H ∧ Q (.ref D) H) ∨ (J.go i H ∧ ∃ Nx : Hp → Prop, (∀ H', Nx H' → ∃ m', m' < m ∧ W (i + 1) m' H') ∧ ∀ x H', J.yld i H x H' → g x (wipe σ vs) H' fun σ2 H2 => wipe σ2 vs = wipe σ vs ∧ tt σ2 H2 fun b H3 =>
    if b = true then wi1 σ2 H3 fun J1 H4 => ∃ W1 : Nat → Nat → Hp → Prop, (∃ m, W1 0 m H4) ∧ ∀ j k H, W1 j k H →
      (J1.stop j H ∧ Nx H) ∨ (J1.go j H ∧ ∃ Nx1 : Hp → Prop, (∀ H', Nx1 H' → ∃ k', k' < k ∧ W1 (j + 1) k' H') ∧ ∀ x H', J1.yld j H x H' → g1 x (wipe σ2 vs1) H' fun σ3 H5 => wipe σ3 vs1 = wipe σ2 vs1 ∧ tt1 σ3 H5 fun b H6 =>
        if b = true then tk σ3 H6 fun y H7 => tv σ3 H7 fun z H8 => ∃ kvs k, y = kV k ∧ H8 D = some (.dK kvs) ∧ kvs.length < sizeLine ∧ Nx1 (upd H8 D (.dK (putK kvs k z))) else Nx1 H6)
    else Nx H3)
theorem lc2_coreD {pins : List (Addr × Obj)} {s : Shared} {σ : L2.St} {H : Hp} {Q : VK} {kx vx tg iter tg1 iter1 : Expr} {ifs ifs1 : List Expr} {scope : Scope} {own : List (Str × Nat)} {vs1 : List Nat} {pos pos' : Pos} {wi wi1 : TI} {g g1 : TG} {tt tt1 : TT} {tk tv : TE} {use : Option (Value → Sem Unit)} {Qf : Value → Shared → Prop}
    (hc : X.calm = true) (hN : X.N.Nodup) (I : Inv X pins σ H s) (hi : PI X tg iter wi) (ok : BlkOk X.N X.env.scope scope own) (hv : ∀ i ∈ vs1, i ∈ own.map (·.2))
    (hg : ∀ (s : Shared) (H : Hp) (C : Addr) (cl : List (Str × Addr)) (fp : List Addr), PG (X.blk s H scope (compEnvC scope cl C X.env) fp) tg g) (ht : ∀ (s : Shared) (H : Hp) (C : Addr) (cl : List (Str × Addr)) (fp : List Addr), PTs (X.blk s H scope (compEnvC scope cl C X.env) fp) ifs tt)
    (hk : ∀ (s : Shared) (H : Hp) (C : Addr) (cl : List (Str × Addr)) (fp : List Addr), PE (X.blk s H scope (compEnvC scope cl C X.env) fp) kx tk) (he : ∀ (s : Shared) (H : Hp) (C : Addr) (cl : List (Str × Addr)) (fp : List Addr), PE (X.blk s H scope (compEnvC scope cl C X.env) fp) vx tv) (hs : ∀ x, foldedSetIterable iter X.env x = pure x)
    (hi1 : ∀ (s : Shared) (H : Hp) (C : Addr) (cl : List (Str × Addr)) (fp : List Addr), PI (X.blk s H scope (compEnvC scope cl C X.env) fp) tg1 iter1 wi1)
    (hg1 : ∀ (s : Shared) (H : Hp) (C : Addr) (cl : List (Str × Addr)) (fp : List Addr), PG (X.blk s H scope (compEnvC scope cl C X.env) fp) tg1 g1)
    (ht1 : ∀ (s : Shared) (H : Hp) (C : Addr) (cl : List (Str × Addr)) (fp : List Addr), PTs (X.blk s H scope (compEnvC scope cl C X.env) fp) ifs1 tt1)
    (hs1 : ∀ env x, foldedSetIterable iter1 env x = pure x)
    (h : tLc2D wi g tt wi1 g1 tt1 tk tv (own.map (·.2)) vs1 σ H Q)
    (hRR : ∀ D C s' m H', Inv X pins σ H' s' → Q (.ref D) H' → s'.heap.Ns C m → FpOk X pins H' C → compPost (model X.prog X.w) X.A X.xe use Qf (.ref D) C (.ok .next) s') :
    wpAny (model X.prog X.w) X.A (comprehension (.DictComp kx vx [⟨tg, iter, ifs, 0⟩, ⟨tg1, iter1, ifs1, 0⟩] scope pos) scope X.env pos' newDict false (eval iter X.env) use) Qf X.xe s := by
  have hfree : ∀ y ∈ scope.names, y.2 = .free → ∃ c, X.env.cells.lookup y.1 = some c := fun y hy e => by
    rcases ok.free y hy e with k | k
    · exact I.ok.has _ (.inl k)
    · exact I.ok.has _ (.inr k)
  refine wpAny_comprehension_free (use := use) rfl hs (closure_ok hfree) ok.kind (fun y hy e => by rw [ok.uniq y hy, e])
    (thn (hi.run pins s σ H _ I h) fun xv s1 hx => thn hx fun itv s2 h2 => ?_)
  obtain ⟨it, fp, tn, J, H2, e, I2, T, st2, f2, q⟩ := h2
  subst e
  refine wpAny_newObj_type (newEnv_comp ?_)
  generalize hD : s2.heap.objs.size = D
  have hDn : H2 D = none := I2.hok.fresh (Nat.le_of_eq hD)
  obtain ⟨W, ⟨m0, w0⟩, turn⟩ := q D hDn
  -- the new list
  generalize hs3 : ({ s2 with heap := s2.heap.push { cls := .type "dict", data := .dict #[] } } : Shared) = s3
  have I3 : Inv X pins σ (upd H2 D (.dK [])) s3 := by
    rw [← hs3]
    refine I2.laid (t' := s2.toks) (fun b o e => Heap.get?_push_of_some _ e) (Nat.le_of_eq hD) ?_
    rw [← hD]
    exact dk_empty s2.heap I2.big
  have h3 : s3.heap = s2.heap.push { cls := .type "dict", data := .dict #[] } := by rw [← hs3]
  have sz : ∀ b ∈ fp, b < s2.heap.objs.size := fun b hb => by
    obtain ⟨o, e, _⟩ := T.obj _ _ st2 b hb
    exact Heap.lt_size e
  have f3 : ∀ b ∈ fp, FpOk X pins (upd H2 D (.dK [])) b ∧ b < s3.heap.objs.size := fun b hb => by
    have hlt := sz b hb
    refine ⟨⟨?_, (f2 b hb).2⟩, by rw [h3, Heap.size_push]; exact Nat.lt_succ_of_lt hlt⟩
    rw [upd_ne (by rw [← hD]; exact Nat.ne_of_lt hlt)]
    exact (f2 b hb).1
  have st3 : tn 0 s3.heap := T.keep _ _ _ st2 fun b _ o e => by rw [h3]; exact Heap.get?_push_of_some _ e
  have I4 := block_start I3 ok hN f3
  have pg := hg s3 (upd H2 D (.dK [])) s3.heap.objs.size (cellsFrom (s3.heap.objs.size + 1) scope.names (cloFrom X.env.cells scope.names [])) fp
  have pt := ht s3 (upd H2 D (.dK [])) s3.heap.objs.size (cellsFrom (s3.heap.objs.size + 1) scope.names (cloFrom X.env.cells scope.names [])) fp
  have pk := hk s3 (upd H2 D (.dK [])) s3.heap.objs.size (cellsFrom (s3.heap.objs.size + 1) scope.names (cloFrom X.env.cells scope.names [])) fp
  have pe := he s3 (upd H2 D (.dK [])) s3.heap.objs.size (cellsFrom (s3.heap.objs.size + 1) scope.names (cloFrom X.env.cells scope.names [])) fp
  have pi1 := hi1 s3 (upd H2 D (.dK [])) s3.heap.objs.size (cellsFrom (s3.heap.objs.size + 1) scope.names (cloFrom X.env.cells scope.names [])) fp
  have pg1 := hg1 s3 (upd H2 D (.dK [])) s3.heap.objs.size (cellsFrom (s3.heap.objs.size + 1) scope.names (cloFrom X.env.cells scope.names [])) fp
  have pt1 := ht1 s3 (upd H2 D (.dK [])) s3.heap.objs.size (cellsFrom (s3.heap.objs.size + 1) scope.names (cloFrom X.env.cells scope.names [])) fp
  show codeAny _ _ (.compStart (.DictComp kx vx [⟨tg, iter, ifs, 0⟩, ⟨tg1, iter1, ifs1, 0⟩] scope pos) 0 (.ref it) (.ref D) (compEnvC scope (cellsFrom (s3.heap.objs.size + 1) scope.names (cloFrom X.env.cells scope.names [])) s3.heap.objs.size X.env)) (compPost (model X.prog X.w) X.A X.xe use Qf (.ref D) s3.heap.objs.size) { s3 with heap := pushCells (s3.heap.push { cls := .type "dict", data := .dict #[] }) scope.names }
  have nfp : ∀ b ∈ fp, (upd H2 D (.dK [])) b = none := fun b hb => (f3 b hb).1.1
  generalize hce : compEnvC scope (cellsFrom (s3.heap.objs.size + 1) scope.names (cloFrom X.env.cells scope.names [])) s3.heap.objs.size X.env = ce at I4 pg pt pk pe pi1 pg1 pt1 ⊢
  have cL : ce.locals = s3.heap.objs.size := by subst hce; rfl
  generalize hH3 : upd H2 D (.dK []) = H3 at I3 I4 pg pt pk pe pi1 pg1 pt1 w0 nfp f3
  generalize hs4 : ({ s3 with heap := pushCells (s3.heap.push { cls := .type "dict", data := .dict #[] }) scope.names } : Shared) = s4 at I4 ⊢
  have st4 : tn 0 s4.heap := T.keep _ _ _ st3 fun b _ o e => by rw [← hs4]; exact pushCells_keeps _ _ _ _ (Heap.get?_push_of_some _ e)
  have stat : ∀ {σ' : L2.St} {H' : Hp} {s' : Shared}, Inv (X.blk s3 H3 scope ce fp) [] σ' H' s' → (∀ b ∈ fp, H' b = none) → ∀ b ∈ fp, FpOk (X.blk s3 H3 scope ce fp) [] H' b := fun {σ' H' s'} I' hn b hb =>
    ⟨hn b hb, (I'.ok.exf b hb).1, I'.ok.exfs b hb, .inl hb, fun x c e => (I'.ok.exf b hb).2 x c e, fun p hp => absurd (show p ∈ ([] : List (Addr × Obj)) ++ [] from hp) (by simp)⟩
  have loop : codeAny (model X.prog X.w) X.A (.compLoop (.DictComp kx vx [⟨tg, iter, ifs, 0⟩, ⟨tg1, iter1, ifs1, 0⟩] scope pos) 0 (.ref it) (.ref D) ce) (compPost (model X.prog X.w) X.A X.xe use Qf (.ref D) s3.heap.objs.size) s4 := by
    refine compLoop2_outD (hs1 ce) (fun n s' => ∃ i H', Inv (X.blk s3 H3 scope ce fp) [] (wipe σ (own.map (·.2))) H' s' ∧ tn i s'.heap ∧ (∀ b ∈ fp, H' b = none) ∧ W i n H') ?_ m0 ⟨0, H3, I4, st4, nfp, w0⟩
    rintro n s5 ⟨i, H5, I5, st5, n5, w5⟩
    rcases turn i n H5 w5 with ⟨stop, qq⟩ | ⟨go, Nx, hNx, step⟩
    · have td := T.done (X.blk s3 H3 scope ce fp) rfl rfl rfl hc i [] s5 _ H5 (fun _ _ => False) I5 (stat I5 n5) st5 stop
      refine thnF td fun r s6 ⟨hr, I6⟩ => ?_
      subst hr
      -- back in the def's context
      have I7 : Inv X pins σ H5 s6 := I3.call' (ch := fp) I6.os I6.base I6.hok I6.bare fun b hb => ⟨(f3 b hb).1.2.2.2.1, (f3 b hb).1.2.1, (f3 b hb).1.2.2.2.2.1, (f3 b hb).1.2.2.2.2.2⟩
      have nC : H5 s3.heap.objs.size = none := by
        have z : H5 ce.locals = none := I6.free
        rw [cL] at z
        exact z
      obtain ⟨m, hn, _⟩ := I6.loc
      have hn : s6.heap.Ns ce.locals m := hn
      rw [cL] at hn
      exact hRR D s3.heap.objs.size s6 m H5 I7 qq hn (I3.fpOk (Nat.le_refl _) nC)
    · have ti := T.item (X.blk s3 H3 scope ce fp) rfl rfl rfl hc i [] s5 _ H5 (fun _ _ => False) I5 (stat I5 n5) st5 go
      refine thnF ti fun r s6 ⟨u, hr, h6⟩ => ?_
      subst hr
      refine thnF h6 fun _ s7 ⟨x, H7, I7, r7, y7, st7, n7⟩ => ?_
      have I7' := I7.pinned (stat I7 n7) (T.obj _ _ st7)
      refine thnF (pg.run _ s7 _ H7 x u _ I7' r7 (step x H7 y7)) fun _ s8 ⟨σ8, H8, I8, hw8, q8⟩ => ?_
      refine thnF (pt.run _ s8 σ8 H8 _ I8 q8) fun b s9 ⟨H9, I9, q9⟩ => ?_
      -- the turn's end, from any slots that know what the block knew at its start
      have fin : ∀ {σ9 : L2.St} {s' : Shared} {H' : Hp}, Inv (X.blk s3 H3 scope ce fp) ([] ++ pinsAt fp s7.heap) σ9 H' s' → (wipe σ (own.map (·.2))).length = σ9.length → (∀ (j : Nat) v, (wipe σ (own.map (·.2)))[j]? = some (some v) → σ9[j]? = some (some v)) → Nx H' →
          ∃ m, m < n ∧ ∃ i H', Inv (X.blk s3 H3 scope ce fp) [] (wipe σ (own.map (·.2))) H' s' ∧ tn i s'.heap ∧ (∀ b ∈ fp, H' b = none) ∧ W i m H' := fun {σ9 s' H'} I' hl hk nx => by
        obtain ⟨m', hm, w'⟩ := hNx H' nx
        have pin' : ∀ b ∈ fp, ∀ o, s7.heap.get? b = some o → s'.heap.get? b = some o ∧ H' b = none := fun b hb o e =>
          let z := I'.pin (b, o) (List.mem_append_right _ (List.mem_append_right _ (mem_pinsAt hb e)))
          ⟨z.1, z.2.1⟩
        refine ⟨m', hm, i + 1, H', (I'.unpinned (pins := [])).weak hl hk, T.keep _ _ _ st7 fun b hb o e => (pin' b hb o e).1, fun b hb => ?_, w'⟩
        obtain ⟨o, e, _⟩ := T.obj _ _ st7 b hb
        exact (pin' b hb o e).2
      have hl8 : (wipe σ (own.map (·.2))).length = σ8.length := by rw [← hw8, wipe_length]
      have hk8 : ∀ (j : Nat) v, (wipe σ (own.map (·.2)))[j]? = some (some v) → σ8[j]? = some (some v) := fun j v e => by
        rw [← hw8] at e
        exact (wipe_some e).1
      have hk9 : ∀ (j : Nat) v, (wipe σ (own.map (·.2)))[j]? = some (some v) → (wipe σ8 vs1)[j]? = some (some v) := fun j v e => by
        rw [← hw8] at e
        obtain ⟨e1, e2⟩ := wipe_some e
        rw [wipe_out fun z => e2 (hv j z)]
        exact e1
      cases b with
      | false =>
        simp only [Bool.false_eq_true, if_false] at q9 ⊢
        exact fin I9 hl8 hk8 q9
      | true =>
        simp only [if_true] at q9 ⊢
        refine thnF (pi1.run _ s9 σ8 H9 _ I9 q9) fun xv s10 hx => thnF hx fun itv s11 h11 => ?_
        obtain ⟨it1, fp1, tn1, J1, H11, e1, I11, T1, st11, f11, W1, ⟨m1, w1⟩, turn1⟩ := h11
        subst e1
        -- the inner loop
        have stat1 : ∀ {H' : Hp}, (∀ b ∈ fp1, H' b = none) → ∀ b ∈ fp1, FpOk (X.blk s3 H3 scope ce fp) ([] ++ pinsAt fp s7.heap) H' b := fun hn b hb => ⟨hn b hb, (f11 b hb).2⟩
        have loop1 : codeAny (model X.prog X.w) X.A (.compLoop (.DictComp kx vx [⟨tg, iter, ifs, 0⟩, ⟨tg1, iter1, ifs1, 0⟩] scope pos) 1 (.ref it1) (.ref D) ce)
            (fun r s' => match r with
              | .ok _ => ∃ m, m < n ∧ ∃ i H', Inv (X.blk s3 H3 scope ce fp) [] (wipe σ (own.map (·.2))) H' s' ∧ tn i s'.heap ∧ (∀ b ∈ fp, H' b = none) ∧ W i m H'
              | .error _ => False) s11 := by
          refine compLoop2_inD (fun k s' => ∃ j H', Inv (X.blk s3 H3 scope ce fp) ([] ++ pinsAt fp s7.heap) (wipe σ8 vs1) H' s' ∧ tn1 j s'.heap ∧ (∀ b ∈ fp1, H' b = none) ∧ W1 j k H') ?_ m1 ⟨0, H11, I11.weak (wipe_length _ _) (fun j v e => (wipe_some e).1), st11, fun b hb => (f11 b hb).1, w1⟩
          rintro k s12 ⟨j, H12, I12, st12, n12, w12⟩
          rcases turn1 j k H12 w12 with ⟨stop1, nx1⟩ | ⟨go1, Nx1, hNx1, step1⟩
          · refine thnF (T1.done (X.blk s3 H3 scope ce fp) rfl rfl rfl hc j _ s12 (wipe σ8 vs1) H12 (fun _ _ => False) I12 (stat1 n12) st12 stop1) fun r s13 ⟨hr, I13⟩ => ?_
            subst hr
            exact fin I13 (hl8.trans (wipe_length σ8 vs1).symm) hk9 nx1
          · refine thnF (T1.item (X.blk s3 H3 scope ce fp) rfl rfl rfl hc j _ s12 (wipe σ8 vs1) H12 (fun _ _ => False) I12 (stat1 n12) st12 go1) fun r s13 ⟨u1, hr, h13⟩ => ?_
            subst hr
            refine thnF h13 fun _ s14 ⟨x1, H14, I14, r14, y14, st14, n14⟩ => ?_
            have I14' := I14.pinned (stat1 n14) (T1.obj _ _ st14)
            refine thnF (pg1.run _ s14 (wipe σ8 vs1) H14 x1 u1 _ I14' r14 (step1 x1 H14 y14)) fun _ s15 ⟨σ15, H15, I15, hw15, q15⟩ => ?_
            refine thnF (pt1.run _ s15 σ15 H15 _ I15 q15) fun b1 s16 ⟨H16, I16, q16⟩ => ?_
            have fin1 : ∀ {s' : Shared} {H' : Hp}, Inv (X.blk s3 H3 scope ce fp) (([] ++ pinsAt fp s7.heap) ++ pinsAt fp1 s14.heap) σ15 H' s' → Nx1 H' → ∃ m, m < k ∧ ∃ j H', Inv (X.blk s3 H3 scope ce fp) ([] ++ pinsAt fp s7.heap) (wipe σ8 vs1) H' s' ∧ tn1 j s'.heap ∧ (∀ b ∈ fp1, H' b = none) ∧ W1 j m H' := fun {s' H'} I' nx => by
              obtain ⟨m', hm, w'⟩ := hNx1 H' nx
              have pin' : ∀ b ∈ fp1, ∀ o, s14.heap.get? b = some o → s'.heap.get? b = some o ∧ H' b = none := fun b hb o e =>
                let z := I'.pin (b, o) (List.mem_append_right _ (List.mem_append_right _ (mem_pinsAt hb e)))
                ⟨z.1, z.2.1⟩
              refine ⟨m', hm, j + 1, H', I'.unpinned.weak (by rw [← hw15, wipe_length]) (fun j v e => by rw [← hw15] at e; exact (wipe_some e).1), T1.keep _ _ _ st14 fun b hb o e => (pin' b hb o e).1, fun b hb => ?_, w'⟩
              obtain ⟨o, e, _⟩ := T1.obj _ _ st14 b hb
              exact (pin' b hb o e).2
            cases b1 with
            | false =>
              simp only [Bool.false_eq_true, if_false] at q16 ⊢
              exact fin1 I16 q16
            | true =>
              simp only [if_true] at q16 ⊢
              refine thnF (pk.run _ s16 σ15 H16 _ I16 q16) fun z s17 ⟨yk, H17, I17, r17, q17⟩ => ?_
              refine thnF (pe.run _ s17 σ15 H17 _ I17 q17) fun z2 s18 ⟨yv, H18, I18, r18, kvs, k, ek, hD18, hz18, nx⟩ => ?_
              subst ek
              exact d_dictSet (X := X.blk s3 H3 scope ce fp) I18 hD18 hz18 r17 r18 fun s19 I19 => fin1 I19 nx
        exact compStart1_okD loop1 (T1.self X.A 0 _ _ _ st11 loop1)
  exact codeAny_compStart_dict loop (T.self X.A 0 _ _ _ st4 loop)

theorem pe_lc2D {kx vx tg iter tg1 iter1 : Expr} {ifs ifs1 : List Expr} {scope : Scope} {own : List (Str × Nat)} {vs1 : List Nat} {pos : Pos} {wi wi1 : TI} {g g1 : TG} {tt tt1 : TT} {tk tv : TE} (hc : X.calm = true) (hN : X.N.Nodup) (hi : PI X tg iter wi) (ok : BlkOk X.N X.env.scope scope own) (hv : ∀ i ∈ vs1, i ∈ own.map (·.2))
    (hg : ∀ (s : Shared) (H : Hp) (C : Addr) (cl : List (Str × Addr)) (fp : List Addr), PG (X.blk s H scope (compEnvC scope cl C X.env) fp) tg g) (ht : ∀ (s : Shared) (H : Hp) (C : Addr) (cl : List (Str × Addr)) (fp : List Addr), PTs (X.blk s H scope (compEnvC scope cl C X.env) fp) ifs tt)
    (hi1 : ∀ (s : Shared) (H : Hp) (C : Addr) (cl : List (Str × Addr)) (fp : List Addr), PI (X.blk s H scope (compEnvC scope cl C X.env) fp) tg1 iter1 wi1)
    (hg1 : ∀ (s : Shared) (H : Hp) (C : Addr) (cl : List (Str × Addr)) (fp : List Addr), PG (X.blk s H scope (compEnvC scope cl C X.env) fp) tg1 g1) (ht1 : ∀ (s : Shared) (H : Hp) (C : Addr) (cl : List (Str × Addr)) (fp : List Addr), PTs (X.blk s H scope (compEnvC scope cl C X.env) fp) ifs1 tt1)
    (hk : ∀ (s : Shared) (H : Hp) (C : Addr) (cl : List (Str × Addr)) (fp : List Addr), PE (X.blk s H scope (compEnvC scope cl C X.env) fp) kx tk) (he : ∀ (s : Shared) (H : Hp) (C : Addr) (cl : List (Str × Addr)) (fp : List Addr), PE (X.blk s H scope (compEnvC scope cl C X.env) fp) vx tv) (hs : ∀ x, foldedSetIterable iter X.env x = pure x := by intro _; rfl) (hs1 : ∀ env x, foldedSetIterable iter1 env x = pure x := by intro _ _; rfl) :
    PE X (.DictComp kx vx [⟨tg, iter, ifs, 0⟩, ⟨tg1, iter1, ifs1, 0⟩] scope pos) (tLc2D wi g tt wi1 g1 tt1 tk tv (own.map (·.2)) vs1) := by
  refine ⟨fun pins s σ H Q I h => ?_⟩
  rw [arm_eval_DictComp]
  refine lc2_coreD hc hN I hi ok hv hg ht hk he hs hi1 hg1 ht1 hs1 h fun D C s' m H' I' q hn f => ⟨m, hn, fun h'' sb => ?_⟩
  obtain ⟨f0, f1, f2, f3, f4, f5⟩ := f
  exact ⟨.ref D, H', I'.turned (t' := s'.toks) (fun b o hb e => (sb.2 b hb).trans e) f0 f1 f3 f4 f5, rfl, q⟩
end
end Od
end
section
set_option Elab.async false
set_option linter.all false
set_option maxRecDepth 100000
set_option maxHeartbeats 2000000
/-! name = {..}: a dict comprehension given to a local on one line -/
namespace Od
open PySem PySem.Spec PyProof.Rows L2
theorem swD_true {kx vx : Expr} {gs : List Comprehension} {scope : Scope} {pos py : Pos} {y : Str} {l : Nat} {env : Env} (hk : env.scope.kind = .function) (hy : env.scope.names.lookup y = some .local) (hl : (py.line == pos.line) = true)
    (ha : (scope.names.any fun (n, k) => n == y && (k == .local || k == .cell)) = false) : swapsWith (.DictComp kx vx gs scope pos) (some (.Name y py)) l env = pure true := by
  have ky : env.kindOf y = some .local := hy
  have hb : env.blockKind = .function := by unfold Env.blockKind; rw [hk]; rfl
  unfold swapsWith
  simp only [hb, ky, ha, Expr.pos, hl]
  rfl
section
variable {X : Cx}
theorem ps_setDc {i : Nat} {y : Str} {py : Pos} {kx vx tg iter : Expr} {ifs : List Expr} {scope : Scope} {own : List (Str × Nat)} {pos spos : Pos} {wi : TI} {g : TG} {tt : TT} {tk tv : TE} (hc : X.calm = true) (hN : X.N.Nodup) (hy : X.N[i]? = some y) (hyl : X.env.scope.names.lookup y = some .local)
    (hsw : swapsWith (.DictComp kx vx [⟨tg, iter, ifs, 0⟩] scope pos) (some (.Name y py)) spos.line X.env = pure true) (hi : PI X tg iter wi) (ok : BlkOk X.N X.env.scope scope own)
    (hg : ∀ (s : Shared) (H : Hp) (C : Addr) (cl : List (Str × Addr)) (fp : List Addr), PG (X.blk s H scope (compEnvC scope cl C X.env) fp) tg g) (ht : ∀ (s : Shared) (H : Hp) (C : Addr) (cl : List (Str × Addr)) (fp : List Addr), PTs (X.blk s H scope (compEnvC scope cl C X.env) fp) ifs tt)
    (hk : ∀ (s : Shared) (H : Hp) (C : Addr) (cl : List (Str × Addr)) (fp : List Addr), PE (X.blk s H scope (compEnvC scope cl C X.env) fp) kx tk)
    (he : ∀ (s : Shared) (H : Hp) (C : Addr) (cl : List (Str × Addr)) (fp : List Addr), PE (X.blk s H scope (compEnvC scope cl C X.env) fp) vx tv) (hs : ∀ x, foldedSetIterable iter X.env x = pure x := by intro _; rfl) :
    PS X (.Assign [.Name y py] (.DictComp kx vx [⟨tg, iter, ifs, 0⟩] scope pos) spos) (tAsg (tDc wi g tt tk tv (own.map (·.2))) (gName i)) := by
  refine ⟨fun pins s σ H D I h => ?_⟩
  rw [exec_Assign_Name_used _ _ _ _ hsw]
  refine wpAny_bind (wpAny_standAt (wpAny_bind ?_))
  show wpAny _ X.A (do let _ ← comprehension (.DictComp kx vx [⟨tg, iter, ifs, 0⟩] scope pos) scope X.env (firstIterPos [⟨tg, iter, ifs, 0⟩] pos) newDict false (eval iter X.env) (some (assign (.Name y py) X.env))) _ _ s
  have h : tDc wi g tt tk tv (own.map (·.2)) σ H (fun x H1 => gName i x σ H1 D.nx) := h
  refine wpAny_bind (thn (dc_core (Qf := fun _ s' => SP X pins D .next s') hc hN I hi ok hg ht hk he hs h fun L C s' m H' I' q hn f => ?_) fun _ s' hq => wpAny_pure (wpAny_pure hq))
  show wpAny _ _ (assign (.Name y py) X.env (.ref L)) _ _ _
  refine wpAny_assign_Name (store_ok2 (v := V.ref L) I' hN hy (.inl hyl) rfl (fun s2 I2 ⟨a, sb, ha⟩ => ?_) (.inr hyl))
  obtain ⟨f0, f1, f2, f3, f4, f5⟩ := f
  have haC : C ≠ a := by
    rcases ha with z | z
    · rw [z]; exact f1
    · exact fun e => f4 y a z e.symm
  refine ⟨m, hn.sameBut sb haC, fun h3 sb3 => ?_⟩
  exact ⟨_, H', I2.turned (t' := s2.toks) (fun b o hb e => (sb3.2 b hb).trans e) f0 f1 f3 f4 f5, q⟩
theorem ps_setDc2 {i : Nat} {y : Str} {py : Pos} {kx vx tg iter tg1 iter1 : Expr} {ifs ifs1 : List Expr} {scope : Scope} {own : List (Str × Nat)} {vs1 : List Nat} {pos spos : Pos} {wi wi1 : TI} {g g1 : TG} {tt tt1 : TT} {tk tv : TE} (hc : X.calm = true) (hN : X.N.Nodup) (hy : X.N[i]? = some y) (hyl : X.env.scope.names.lookup y = some .local)
    (hsw : swapsWith (.DictComp kx vx [⟨tg, iter, ifs, 0⟩, ⟨tg1, iter1, ifs1, 0⟩] scope pos) (some (.Name y py)) spos.line X.env = pure true) (hi : PI X tg iter wi) (ok : BlkOk X.N X.env.scope scope own) (hv : ∀ i ∈ vs1, i ∈ own.map (·.2))
    (hg : ∀ (s : Shared) (H : Hp) (C : Addr) (cl : List (Str × Addr)) (fp : List Addr), PG (X.blk s H scope (compEnvC scope cl C X.env) fp) tg g) (ht : ∀ (s : Shared) (H : Hp) (C : Addr) (cl : List (Str × Addr)) (fp : List Addr), PTs (X.blk s H scope (compEnvC scope cl C X.env) fp) ifs tt)
    (hi1 : ∀ (s : Shared) (H : Hp) (C : Addr) (cl : List (Str × Addr)) (fp : List Addr), PI (X.blk s H scope (compEnvC scope cl C X.env) fp) tg1 iter1 wi1)
    (hg1 : ∀ (s : Shared) (H : Hp) (C : Addr) (cl : List (Str × Addr)) (fp : List Addr), PG (X.blk s H scope (compEnvC scope cl C X.env) fp) tg1 g1) (ht1 : ∀ (s : Shared) (H : Hp) (C : Addr) (cl : List (Str × Addr)) (fp : List Addr), PTs (X.blk s H scope (compEnvC scope cl C X.env) fp) ifs1 tt1)
    (hk : ∀ (s : Shared) (H : Hp) (C : Addr) (cl : List (Str × Addr)) (fp : List Addr), PE (X.blk s H scope (compEnvC scope cl C X.env) fp) kx tk)
    (he : ∀ (s : Shared) (H : Hp) (C : Addr) (cl : List (Str × Addr)) (fp : List Addr), PE (X.blk s H scope (compEnvC scope cl C X.env) fp) vx tv) (hs : ∀ x, foldedSetIterable iter X.env x = pure x := by intro _; rfl) (hs1 : ∀ env x, foldedSetIterable iter1 env x = pure x := by intro _ _; rfl) :
    PS X (.Assign [.Name y py] (.DictComp kx vx [⟨tg, iter, ifs, 0⟩, ⟨tg1, iter1, ifs1, 0⟩] scope pos) spos) (tAsg (tLc2D wi g tt wi1 g1 tt1 tk tv (own.map (·.2)) vs1) (gName i)) := by
  refine ⟨fun pins s σ H D I h => ?_⟩
  rw [exec_Assign_Name_used _ _ _ _ hsw]
  refine wpAny_bind (wpAny_standAt (wpAny_bind ?_))
  show wpAny _ X.A (do let _ ← comprehension (.DictComp kx vx [⟨tg, iter, ifs, 0⟩, ⟨tg1, iter1, ifs1, 0⟩] scope pos) scope X.env (firstIterPos [⟨tg, iter, ifs, 0⟩, ⟨tg1, iter1, ifs1, 0⟩] pos) newDict false (eval iter X.env) (some (assign (.Name y py) X.env))) _ _ s
  have h : tLc2D wi g tt wi1 g1 tt1 tk tv (own.map (·.2)) vs1 σ H (fun x H1 => gName i x σ H1 D.nx) := h
  refine wpAny_bind (thn (lc2_coreD (Qf := fun _ s' => SP X pins D .next s') hc hN I hi ok hv hg ht hk he hs hi1 hg1 ht1 hs1 h fun L C s' m H' I' q hn f => ?_) fun _ s' hq => wpAny_pure (wpAny_pure hq))
  show wpAny _ _ (assign (.Name y py) X.env (.ref L)) _ _ _
  refine wpAny_assign_Name (store_ok2 (v := V.ref L) I' hN hy (.inl hyl) rfl (fun s2 I2 ⟨a, sb, ha⟩ => ?_) (.inr hyl))
  obtain ⟨f0, f1, f2, f3, f4, f5⟩ := f
  have haC : C ≠ a := by
    rcases ha with z | z
    · rw [z]; exact f1
    · exact fun e => f4 y a z e.symm
  refine ⟨m, hn.sameBut sb haC, fun h3 sb3 => ?_⟩
  exact ⟨_, H', I2.turned (t' := s2.toks) (fun b o hb e => (sb3.2 b hb).trans e) f0 f1 f3 f4 f5, q⟩
end
end Od
end
section
set_option Elab.async false
set_option linter.all false
set_option maxRecDepth 100000
set_option maxHeartbeats 2000000
set_option autoImplicit false
/-! comprehensions of two clauses, tables of ints -/
namespace Od
open PySem PySem.Spec PyProof.Rows L2
/-! ### counting -/
theorem nodup_le : ∀ (n : Nat) (l : List Nat), l.Nodup → (∀ x ∈ l, x < n) → l.length ≤ n
  | 0, [], _, _ => Nat.le_refl _
  | 0, x :: l, _, h => absurd (h x List.mem_cons_self) (Nat.not_lt_zero _)
  | n + 1, l, nd, h => by
    have h1 : (l.filter fun x => decide (x ≠ n)).length ≤ n := nodup_le n _ (nd.sublist List.filter_sublist) fun x hx => by
      have := List.mem_filter.mp hx
      have h2 := h x this.1
      have h3 : x ≠ n := of_decide_eq_true this.2
      omega
    have h2 : ∀ l : List Nat, l.Nodup → l.length ≤ (l.filter fun x => decide (x ≠ n)).length + 1 := by
      intro l
      induction l with
      | nil => intro _; exact Nat.zero_le _
      | cons a l ih =>
        intro nd
        have nd' := List.nodup_cons.mp nd
        by_cases c : a = n
        · have e : (l.filter fun x => decide (x ≠ n)) = l := List.filter_eq_self.mpr fun x hx => decide_eq_true fun e => nd'.1 (by rw [c, ← e]; exact hx)
          rw [List.filter_cons, if_neg (by simp [c]), e, List.length_cons]
          exact Nat.le_refl _
        · rw [List.filter_cons, if_pos (by simp [c]), List.length_cons, List.length_cons]
          have := ih nd'.2
          omega
    have := h2 l nd
    omega
theorem nodup_int {l : List Int} {lo : Int} {n : Nat} (nd : l.Nodup) (h : ∀ x ∈ l, lo ≤ x ∧ x < lo + n) : l.length ≤ n := by
  have := nodup_le n (l.map fun x => (x - lo).toNat) ?_ ?_
  · rwa [List.length_map] at this
  · rw [List.nodup_iff_pairwise_ne, List.pairwise_map]
    refine (List.nodup_iff_pairwise_ne.mp nd).imp_of_mem fun {a b} ha hb hab e => hab ?_
    have := h a ha
    have := h b hb
    omega
  · intro x hx
    obtain ⟨y, hy, rfl⟩ := List.mem_map.mp hx
    have := h y hy
    omega
/-! ### tables of ints -/
/-- the dict kvs has int keys; T tells what stands at a key -/
structure Tab (kvs : List (Key × V)) (T : Int → Option V) : Prop where
  val : ∀ k, valV kvs (.inl k) = T k
  ent : ∀ e ∈ kvs, ∃ k, e.1 = .inl k ∧ T k = some e.2
  nd : (kvs.map (·.1)).Nodup
theorem Tab.nil : Tab [] fun _ => none := ⟨fun _ => rfl, fun _ h => (by cases h), List.nodup_nil⟩
theorem Tab.mem {kvs : List (Key × V)} {T : Int → Option V} (t : Tab kvs T) {k : Int} {v : V} (h : T k = some v) : (Sum.inl k, v) ∈ kvs := by
  rw [← t.val] at h
  unfold valV at h
  obtain ⟨e, he, rfl⟩ := Option.map_eq_some_iff.mp h
  have h1 := List.mem_of_find?_eq_some he
  have h2 : e.1 = Sum.inl k := by simpa using List.find?_some he
  obtain ⟨a, b⟩ := e
  simp only at h2
  subst h2
  exact h1
theorem keys_put (kvs : List (Key × V)) (k : Key) (v : V) : (putK kvs k v).map (·.1) = if (valV kvs k).isSome then kvs.map (·.1) else kvs.map (·.1) ++ [k] := by
  unfold putK
  rw [valV_any]
  by_cases c : (valV kvs k).isSome = true
  · rw [if_pos c, if_pos c, List.map_map]
    apply List.map_congr_left
    intro e _
    show (if e.1 = k then (e.1, v) else e).1 = e.1
    split <;> rfl
  · rw [if_neg c, if_neg c, List.map_append]
    rfl
theorem Tab.put {kvs : List (Key × V)} {T : Int → Option V} (t : Tab kvs T) (k : Int) (v : V) : Tab (putK kvs (.inl k) v) fun j => if j = k then some v else T j := by
  refine ⟨fun j => ?_, fun e he => ?_, ?_⟩
  · rw [valV_put, t.val]
    by_cases c : j = k
    · rw [if_pos c, if_pos (by rw [c])]
    · rw [if_neg c, if_neg (fun e => c (Sum.inl.inj e))]
  · unfold putK at he
    split at he
    · obtain ⟨a, ha, rfl⟩ := List.mem_map.mp he
      obtain ⟨j, hj, hT⟩ := t.ent a ha
      by_cases c : a.1 = .inl k
      · rw [if_pos c]
        exact ⟨k, c, by rw [if_pos rfl]⟩
      · rw [if_neg c]
        exact ⟨j, hj, by rw [if_neg (fun e => c (by rw [hj, e]))]; exact hT⟩
    · rename_i hn
      rcases List.mem_append.mp he with ha | ha
      · obtain ⟨j, hj, hT⟩ := t.ent e ha
        refine ⟨j, hj, ?_⟩
        rw [if_neg]
        · exact hT
        · intro c
          apply hn
          rw [List.any_eq_true]
          exact ⟨e, ha, decide_eq_true (by rw [hj, c])⟩
      · rw [List.mem_singleton.mp ha]
        exact ⟨k, rfl, by rw [if_pos rfl]⟩
  · rw [keys_put]
    split
    · exact t.nd
    · rename_i hs
      rw [List.nodup_append]
      refine ⟨t.nd, by simp, fun a ha b hb => ?_⟩
      rw [List.mem_singleton.mp hb]
      intro c
      apply hs
      rw [← valV_any, List.any_eq_true]
      obtain ⟨e, he, rfl⟩ := List.mem_map.mp ha
      exact ⟨e, he, decide_eq_true c⟩
def keyI : Key → Int
  | .inl k => k
  | .inr _ => 0
theorem Tab.len {kvs : List (Key × V)} {T : Int → Option V} (t : Tab kvs T) {lo : Int} {n : Nat} (h : ∀ k v, T k = some v → lo ≤ k ∧ k < lo + n) : kvs.length ≤ n := by
  have e : kvs.map (·.1) = (kvs.map fun e => keyI e.1).map Sum.inl := by
    rw [List.map_map]
    apply List.map_congr_left
    intro e he
    obtain ⟨k, hk, _⟩ := t.ent e he
    show e.1 = Sum.inl (keyI e.1)
    rw [hk]
    rfl
  have nd := t.nd
  rw [e] at nd
  have nd2 : (kvs.map fun e => keyI e.1).Nodup := by
    rw [List.nodup_iff_pairwise_ne, List.pairwise_map] at nd
    rw [List.nodup_iff_pairwise_ne]
    exact nd.imp fun {a b} h c => h (by rw [c])
  have := nodup_int (lo := lo) (n := n) nd2 fun x hx => by
    obtain ⟨a, ha, rfl⟩ := List.mem_map.mp hx
    obtain ⟨k, hk, hT⟩ := t.ent a ha
    rw [hk]
    exact h k _ hT
  rwa [List.length_map] at this
/-! ### two clauses, plain values, no tests -/
/-- what the turns of a walk give, told by a list -/
def Gives (Y : Nat → Hp → V → Hp → Prop) (xs : List V) : Prop := ∀ i H x H', Y i H x H' → H' = H ∧ xs[i]? = some x
theorem gives_at {xs : List V} : Gives (YAt xs) xs := fun _ _ _ _ h => h
theorem gives_vals {kvs : List (Key × V)} : Gives (fun i H x H' => H' = H ∧ ∃ k, kvs[i]? = some (k, x)) (kvs.map (·.2)) := fun i H x H' h => ⟨h.1, by
  obtain ⟨k, e⟩ := h.2
  rw [List.getElem?_map, e]
  rfl⟩
theorem flat_take {α β : Type} (f : α → List β) (xs : List α) (i : Nat) (x : α) (h : xs[i]? = some x) : (xs.take (i + 1)).flatMap f = (xs.take i).flatMap f ++ f x := by
  rw [List.take_add_one, h, List.flatMap_append]
  simp
theorem flat_len {α β : Type} (f : α → List β) (n : Nat) (h : ∀ x, (f x).length ≤ n) : ∀ xs : List α, (xs.flatMap f).length ≤ xs.length * n
  | [] => by simp
  | x :: xs => by
    rw [List.flatMap_cons, List.length_append, List.length_cons, Nat.succ_mul]
    have := flat_len f n h xs
    have := h x
    omega
section
variable {J J1 : It} {G G1 : Hp → Prop} {Y Y1 : Nat → Hp → V → Hp → Prop} {XS YS : List V} {wi1 : TI} {i0 i1 : Nat} {te tk tv : TE} {vs vs1 : List Nat} {σ : L2.St} {H1 : Hp} {D : Addr} {Qd : Hp → Prop}
theorem lc2_pure (w : Walk J XS.length G Y) (hY : Gives Y XS) (w1 : Walk J1 YS.length G1 Y1) (hY1 : Gives Y1 YS) (hD : H1 D = none) (hG : ∀ H, Le H1 H → G H) (hG1 : ∀ H, Le H1 H → G1 H) (hn : XS.length * YS.length ≤ sizeLine) (el : V → V → V)
    (hw : ∀ x, wipe ((wipe σ vs).set i0 (some x)) vs = wipe σ vs) (hw1 : ∀ x y, wipe ((wipe ((wipe σ vs).set i0 (some x)) vs1).set i1 (some y)) vs1 = wipe ((wipe σ vs).set i0 (some x)) vs1)
    (hi : ∀ x H, x ∈ XS → Le H1 H → ∀ R : It → Hp → Prop, R J1 H → wi1 ((wipe σ vs).set i0 (some x)) H R)
    (he : ∀ x y H, x ∈ XS → y ∈ YS → Le H1 H → ∀ N : VK, N (el x y) H → te ((wipe ((wipe σ vs).set i0 (some x)) vs1).set i1 (some y)) H N)
    (hd : ∀ H, Le H1 H → H D = some (.lst (XS.flatMap fun x => YS.map fun y => el x y)) → Qd H) :
    ∃ W : Nat → Nat → Hp → Prop, (∃ m, W 0 m (upd H1 D (.lst []))) ∧ ∀ i m H, W i m H →
  (J.stop i H ∧ Qd H) ∨ (J.go i H ∧ ∃ Nx : Hp → Prop, (∀ H', Nx H' → ∃ m', m' < m ∧ W (i + 1) m' H') ∧ ∀ x H', J.yld i H x H' → gName i0 x (wipe σ vs) H' fun σ2 H2 => wipe σ2 vs = wipe σ vs ∧ tYes σ2 H2 fun b H3 =>
    if b = true then wi1 σ2 H3 fun J1 H4 => ∃ W1 : Nat → Nat → Hp → Prop, (∃ m, W1 0 m H4) ∧ ∀ j k H, W1 j k H →
      (J1.stop j H ∧ Nx H) ∨ (J1.go j H ∧ ∃ Nx1 : Hp → Prop, (∀ H', Nx1 H' → ∃ k', k' < k ∧ W1 (j + 1) k' H') ∧ ∀ x H', J1.yld j H x H' → gName i1 x (wipe σ2 vs1) H' fun σ3 H5 => wipe σ3 vs1 = wipe σ2 vs1 ∧ tYes σ3 H5 fun b H6 =>
        if b = true then te σ3 H6 fun y H7 => ∃ acc, H7 D = some (.lst acc) ∧ acc.length < sizeLine ∧ Nx1 (upd H7 D (.lst (acc ++ [y]))) else Nx1 H6)
    else Nx H3) := by
  have lenT : ∀ i, ((XS.take i).flatMap fun x => YS.map fun y => el x y).length ≤ i * YS.length := fun i => by
    have := flat_len (fun x => YS.map fun y => el x y) YS.length (fun x => by rw [List.length_map]; exact Nat.le_refl _) (XS.take i)
    have h2 : (XS.take i).length ≤ i := by rw [List.length_take]; omega
    exact Nat.le_trans this (Nat.mul_le_mul_right _ h2)
  refine ⟨fun i m H => m = XS.length - i ∧ i ≤ XS.length ∧ Le H1 H ∧ H D = some (.lst ((XS.take i).flatMap fun x => YS.map fun y => el x y)), ⟨_, rfl, Nat.zero_le _, Le.new hD, by rw [upd_self]; simp⟩, ?_⟩
  rintro i m H ⟨rfl, hiX, le, e⟩
  by_cases hlt : i < XS.length
  · refine .inr ⟨w.goes i H hlt (hG H le), fun H' => Le H1 H' ∧ H' D = some (.lst ((XS.take (i + 1)).flatMap fun x => YS.map fun y => el x y)), fun H' p => ⟨XS.length - (i + 1), by omega, rfl, hlt, p⟩, fun x H' y => ?_⟩
    obtain ⟨rfl, hx⟩ := hY i H x H' (w.yields i H x H' hlt (hG H le) y)
    have hxm := List.mem_of_getElem? hx
    refine ⟨hw x, ?_⟩
    show wi1 ((wipe σ vs).set i0 (some x)) H' _
    refine hi x H' hxm le _ ?_
    refine ⟨fun j k H => k = YS.length - j ∧ j ≤ YS.length ∧ Le H1 H ∧ H D = some (.lst (((XS.take i).flatMap fun x => YS.map fun y => el x y) ++ (YS.take j).map fun y => el x y)), ⟨_, rfl, Nat.zero_le _, le, by rw [e]; simp⟩, ?_⟩
    rintro j k H2 ⟨rfl, hjY, le2, e2⟩
    by_cases hlt2 : j < YS.length
    · refine .inr ⟨w1.goes j H2 hlt2 (hG1 H2 le2), fun H' => Le H1 H' ∧ H' D = some (.lst (((XS.take i).flatMap fun x => YS.map fun y => el x y) ++ (YS.take (j + 1)).map fun y => el x y)), fun H' p => ⟨YS.length - (j + 1), by omega, rfl, hlt2, p⟩, fun z H3 y3 => ?_⟩
      obtain ⟨rfl, hz⟩ := hY1 j H2 z H3 (w1.yields j H2 z H3 hlt2 (hG1 H2 le2) y3)
      refine ⟨hw1 x z, ?_⟩
      show te _ H3 _
      refine he x z H3 hxm (List.mem_of_getElem? hz) le2 _ ?_
      refine ⟨_, e2, ?_, le2.upd hD, ?_⟩
      · rw [List.length_append, List.length_map, List.length_take]
        have h1 := lenT i
        have h2 : i * YS.length + YS.length ≤ XS.length * YS.length := by
          rw [← Nat.succ_mul]
          exact Nat.mul_le_mul_right _ hlt
        omega
      · rw [upd_self, List.append_assoc, List.take_add_one, hz, List.map_append]
        rfl
    · have ej : j = YS.length := by omega
      subst ej
      refine .inl ⟨w1.stops H2 (hG1 H2 le2), le2, ?_⟩
      rw [e2, List.take_of_length_le (Nat.le_refl _), flat_take _ _ _ _ hx]
  · have ei : i = XS.length := by omega
    subst ei
    refine .inl ⟨w.stops H (hG H le), hd H le ?_⟩
    rw [e, List.take_of_length_le (Nat.le_refl _)]
/-- .. a dict: the keys' table -/
theorem dc2_pure (w : Walk J XS.length G Y) (hY : Gives Y XS) (w1 : Walk J1 YS.length G1 Y1) (hY1 : Gives Y1 YS) (hD : H1 D = none) (hG : ∀ H, Le H1 H → G H) (hG1 : ∀ H, Le H1 H → G1 H) (el : V → V → Int) (u : V) (lo : Int) (n : Nat) (hn : n < sizeLine) (hb : ∀ x ∈ XS, ∀ y ∈ YS, lo ≤ el x y ∧ el x y < lo + n)
    (hw : ∀ x, wipe ((wipe σ vs).set i0 (some x)) vs = wipe σ vs) (hw1 : ∀ x y, wipe ((wipe ((wipe σ vs).set i0 (some x)) vs1).set i1 (some y)) vs1 = wipe ((wipe σ vs).set i0 (some x)) vs1)
    (hi : ∀ x H, x ∈ XS → Le H1 H → ∀ R : It → Hp → Prop, R J1 H → wi1 ((wipe σ vs).set i0 (some x)) H R)
    (he : ∀ x y H, x ∈ XS → y ∈ YS → Le H1 H → ∀ N : VK, N (.int (el x y)) H → tk ((wipe ((wipe σ vs).set i0 (some x)) vs1).set i1 (some y)) H N)
    (hv : ∀ x y H, x ∈ XS → y ∈ YS → Le H1 H → ∀ N : VK, N u H → tv ((wipe ((wipe σ vs).set i0 (some x)) vs1).set i1 (some y)) H N)
    (hd : ∀ H kvs T, Le H1 H → H D = some (.dK kvs) → Tab kvs T → (∀ k v, T k = some v ↔ v = u ∧ ∃ x ∈ XS, ∃ y ∈ YS, k = el x y) → Qd H) :
    ∃ W : Nat → Nat → Hp → Prop, (∃ m, W 0 m (upd H1 D (.dK []))) ∧ ∀ i m H, W i m H →
  (J.stop i H ∧ Qd H) ∨ (J.go i H ∧ ∃ Nx : Hp → Prop, (∀ H', Nx H' → ∃ m', m' < m ∧ W (i + 1) m' H') ∧ ∀ x H', J.yld i H x H' → gName i0 x (wipe σ vs) H' fun σ2 H2 => wipe σ2 vs = wipe σ vs ∧ tYes σ2 H2 fun b H3 =>
    if b = true then wi1 σ2 H3 fun J1 H4 => ∃ W1 : Nat → Nat → Hp → Prop, (∃ m, W1 0 m H4) ∧ ∀ j k H, W1 j k H →
      (J1.stop j H ∧ Nx H) ∨ (J1.go j H ∧ ∃ Nx1 : Hp → Prop, (∀ H', Nx1 H' → ∃ k', k' < k ∧ W1 (j + 1) k' H') ∧ ∀ x H', J1.yld j H x H' → gName i1 x (wipe σ2 vs1) H' fun σ3 H5 => wipe σ3 vs1 = wipe σ2 vs1 ∧ tYes σ3 H5 fun b H6 =>
        if b = true then tk σ3 H6 fun y H7 => tv σ3 H7 fun z H8 => ∃ kvs k, y = kV k ∧ H8 D = some (.dK kvs) ∧ kvs.length < sizeLine ∧ Nx1 (upd H8 D (.dK (putK kvs k z))) else Nx1 H6)
    else Nx H3) := by
  refine ⟨fun i m H => m = XS.length - i ∧ i ≤ XS.length ∧ Le H1 H ∧ ∃ kvs T, H D = some (.dK kvs) ∧ Tab kvs T ∧ ∀ k v, T k = some v ↔ v = u ∧ ∃ x ∈ XS.take i, ∃ y ∈ YS, k = el x y, ⟨_, rfl, Nat.zero_le _, Le.new hD, [], _, upd_self, .nil, fun k v => ⟨fun h => (by cases h), fun ⟨_, x, hx, _⟩ => (by simp at hx)⟩⟩, ?_⟩
  rintro i m H ⟨rfl, hiX, le, kvs, T, e, tb, ht⟩
  by_cases hlt : i < XS.length
  · refine .inr ⟨w.goes i H hlt (hG H le), fun H' => Le H1 H' ∧ ∃ kvs T, H' D = some (.dK kvs) ∧ Tab kvs T ∧ ∀ k v, T k = some v ↔ v = u ∧ ∃ x ∈ XS.take (i + 1), ∃ y ∈ YS, k = el x y, fun H' p => ⟨XS.length - (i + 1), by omega, rfl, hlt, p⟩, fun x H' y => ?_⟩
    obtain ⟨rfl, hx⟩ := hY i H x H' (w.yields i H x H' hlt (hG H le) y)
    have hxm := List.mem_of_getElem? hx
    have htk : ∀ z, z ∈ XS.take (i + 1) ↔ z ∈ XS.take i ∨ z = x := fun z => by
      rw [List.take_add_one, hx, List.mem_append]
      simp
    refine ⟨hw x, ?_⟩
    show wi1 ((wipe σ vs).set i0 (some x)) H' _
    refine hi x H' hxm le _ ?_
    refine ⟨fun j k H => k = YS.length - j ∧ j ≤ YS.length ∧ Le H1 H ∧ ∃ kvs T, H D = some (.dK kvs) ∧ Tab kvs T ∧ ∀ k v, T k = some v ↔ v = u ∧ ((∃ x ∈ XS.take i, ∃ y ∈ YS, k = el x y) ∨ ∃ y ∈ YS.take j, k = el x y), ⟨_, rfl, Nat.zero_le _, le, kvs, T, e, tb, fun k v => by rw [ht]; simp⟩, ?_⟩
    rintro j k H2 ⟨rfl, hjY, le2, kvs2, T2, e2, tb2, ht2⟩
    by_cases hlt2 : j < YS.length
    · refine .inr ⟨w1.goes j H2 hlt2 (hG1 H2 le2), fun H' => Le H1 H' ∧ ∃ kvs T, H' D = some (.dK kvs) ∧ Tab kvs T ∧ ∀ k v, T k = some v ↔ v = u ∧ ((∃ x ∈ XS.take i, ∃ y ∈ YS, k = el x y) ∨ ∃ y ∈ YS.take (j + 1), k = el x y), fun H' p => ⟨YS.length - (j + 1), by omega, rfl, hlt2, p⟩, fun z H3 y3 => ?_⟩
      obtain ⟨rfl, hz⟩ := hY1 j H2 z H3 (w1.yields j H2 z H3 hlt2 (hG1 H2 le2) y3)
      have hzm := List.mem_of_getElem? hz
      refine ⟨hw1 x z, ?_⟩
      show tk _ H3 _
      refine he x z H3 hxm hzm le2 _ ?_
      refine hv x z H3 hxm hzm le2 _ ?_
      refine ⟨kvs2, .inl (el x z), rfl, e2, ?_, le2.upd hD, _, _, upd_self, tb2.put _ _, fun k v => ?_⟩
      · refine Nat.lt_of_le_of_lt (tb2.len (lo := lo) (n := n) fun k v hk => ?_) hn
        rcases ((ht2 k v).mp hk).2 with ⟨a, ha, b, hb2, rfl⟩ | ⟨b, hb2, rfl⟩
        · exact hb a (List.mem_of_mem_take ha) b hb2
        · exact hb x hxm b (List.mem_of_mem_take hb2)
      · have h3 : ∀ q, q ∈ YS.take (j + 1) ↔ q ∈ YS.take j ∨ q = z := fun q => by
          rw [List.take_add_one, hz, List.mem_append]
          simp
        by_cases c : k = el x z
        · rw [if_pos c]
          constructor
          · intro h
            exact ⟨(Option.some.inj h).symm, .inr ⟨z, (h3 z).mpr (.inr rfl), c⟩⟩
          · intro h
            rw [h.1]
        · rw [if_neg c, ht2]
          constructor
          · rintro ⟨h1, h2 | ⟨q, hq, h2⟩⟩
            · exact ⟨h1, .inl h2⟩
            · exact ⟨h1, .inr ⟨q, (h3 q).mpr (.inl hq), h2⟩⟩
          · rintro ⟨h1, h2 | ⟨q, hq, h2⟩⟩
            · exact ⟨h1, .inl h2⟩
            · rcases (h3 q).mp hq with h | rfl
              · exact ⟨h1, .inr ⟨q, h, h2⟩⟩
              · exact absurd h2 c
    · have ej : j = YS.length := by omega
      subst ej
      refine .inl ⟨w1.stops H2 (hG1 H2 le2), le2, kvs2, T2, e2, tb2, fun k v => ?_⟩
      rw [ht2, List.take_of_length_le (Nat.le_refl _)]
      constructor
      · rintro ⟨h1, ⟨a, ha, b, hb2, h⟩ | ⟨b, hb2, h⟩⟩
        · exact ⟨h1, a, (htk a).mpr (.inl ha), b, hb2, h⟩
        · exact ⟨h1, x, (htk x).mpr (.inr rfl), b, hb2, h⟩
      · rintro ⟨h1, a, ha, b, hb2, h⟩
        rcases (htk a).mp ha with ha | rfl
        · exact ⟨h1, .inl ⟨a, ha, b, hb2, h⟩⟩
        · exact ⟨h1, .inr ⟨b, hb2, h⟩⟩
  · have ei : i = XS.length := by omega
    subst ei
    refine .inl ⟨w.stops H (hG H le), hd H kvs T le e tb fun k v => ?_⟩
    rw [ht, List.take_of_length_le (Nat.le_refl _)]
/-- one clause, a dict: the keys' table -/
theorem dc_pure (w : Walk J XS.length G Y) (hY : Gives Y XS) (hD : H1 D = none) (hG : ∀ H, Le H1 H → G H) (kf : V → Int) (vf : V → V) (lo : Int) (n : Nat) (hn : n < sizeLine) (hb : ∀ x ∈ XS, lo ≤ kf x ∧ kf x < lo + n)
    (hw : ∀ x, wipe ((wipe σ vs).set i0 (some x)) vs = wipe σ vs)
    (he : ∀ x H, x ∈ XS → Le H1 H → ∀ N : VK, N (.int (kf x)) H → tk ((wipe σ vs).set i0 (some x)) H N)
    (hv : ∀ x H, x ∈ XS → Le H1 H → ∀ N : VK, N (vf x) H → tv ((wipe σ vs).set i0 (some x)) H N)
    (hd : ∀ H kvs T, Le H1 H → H D = some (.dK kvs) → Tab kvs T → (∀ k v, T k = some v → ∃ x ∈ XS, k = kf x ∧ v = vf x) → (∀ x ∈ XS, (T (kf x)).isSome = true) → Qd H) :
    ∃ W : Nat → Nat → Hp → Prop, (∃ m, W 0 m (upd H1 D (.dK []))) ∧ ∀ i m H, W i m H →
  (J.stop i H ∧ Qd H) ∨ (J.go i H ∧ ∃ Nx : Hp → Prop, (∀ H', Nx H' → ∃ m', m' < m ∧ W (i + 1) m' H') ∧ ∀ x H', J.yld i H x H' → gName i0 x (wipe σ vs) H' fun σ2 H2 => wipe σ2 vs = wipe σ vs ∧ tYes σ2 H2 fun b H3 =>
    if b = true then tk σ2 H3 fun y H4 => tv σ2 H4 fun z H5 => ∃ kvs k, y = kV k ∧ H5 D = some (.dK kvs) ∧ kvs.length < sizeLine ∧ Nx (upd H5 D (.dK (putK kvs k z))) else Nx H3) := by
  refine ⟨fun i m H => m = XS.length - i ∧ i ≤ XS.length ∧ Le H1 H ∧ ∃ kvs T, H D = some (.dK kvs) ∧ Tab kvs T ∧ (∀ k v, T k = some v → ∃ x ∈ XS.take i, k = kf x ∧ v = vf x) ∧ (∀ x ∈ XS.take i, (T (kf x)).isSome = true), ⟨_, rfl, Nat.zero_le _, Le.new hD, [], _, upd_self, .nil, fun k v h => (by cases h), fun x hx => (by simp at hx)⟩, ?_⟩
  rintro i m H ⟨rfl, hiX, le, kvs, T, e, tb, h1, h2⟩
  by_cases hlt : i < XS.length
  · refine .inr ⟨w.goes i H hlt (hG H le), fun H' => Le H1 H' ∧ ∃ kvs T, H' D = some (.dK kvs) ∧ Tab kvs T ∧ (∀ k v, T k = some v → ∃ x ∈ XS.take (i + 1), k = kf x ∧ v = vf x) ∧ (∀ x ∈ XS.take (i + 1), (T (kf x)).isSome = true), fun H' p => ⟨XS.length - (i + 1), by omega, rfl, hlt, p⟩, fun x H' y => ?_⟩
    obtain ⟨rfl, hx⟩ := hY i H x H' (w.yields i H x H' hlt (hG H le) y)
    have hxm := List.mem_of_getElem? hx
    have htk : ∀ z, z ∈ XS.take (i + 1) ↔ z ∈ XS.take i ∨ z = x := fun z => by
      rw [List.take_add_one, hx, List.mem_append]
      simp
    refine ⟨hw x, ?_⟩
    show tk ((wipe σ vs).set i0 (some x)) H' _
    refine he x H' hxm le _ ?_
    refine hv x H' hxm le _ ?_
    refine ⟨kvs, .inl (kf x), rfl, e, ?_, le.upd hD, _, _, upd_self, tb.put _ _, fun k v hk => ?_, fun z hz => ?_⟩
    · refine Nat.lt_of_le_of_lt (tb.len (lo := lo) (n := n) fun k v hk => ?_) hn
      obtain ⟨a, ha, rfl, _⟩ := h1 k v hk
      exact hb a (List.mem_of_mem_take ha)
    · by_cases c : k = kf x
      · rw [if_pos c] at hk
        exact ⟨x, (htk x).mpr (.inr rfl), c, (Option.some.inj hk).symm⟩
      · rw [if_neg c] at hk
        obtain ⟨a, ha, h3⟩ := h1 k v hk
        exact ⟨a, (htk a).mpr (.inl ha), h3⟩
    · by_cases c : kf z = kf x
      · rw [if_pos c]; rfl
      · rw [if_neg c]
        rcases (htk z).mp hz with h | rfl
        · exact h2 z h
        · exact absurd rfl c
  · have ei : i = XS.length := by omega
    subst ei
    rw [List.take_of_length_le (Nat.le_refl _)] at h1 h2
    exact .inl ⟨w.stops H (hG H le), hd H kvs T le e tb h1 h2⟩
end
end Od
end
section
set_option Elab.async false
set_option linter.all false
set_option maxRecDepth 100000
set_option maxHeartbeats 2000000
set_option autoImplicit false
/-! rules said over a written part of one's own; sorted of any number of texts -/
namespace Od
open PySem PySem.Spec PyProof.Rows L2
section
variable {X : Cx} {K : PySem.W.Frag}
theorem opR_K {f : Value → Value → Sem Value} {r : PySem.W.Frag → R2} (hK : X.K = K) (h : OpR X f (r X.K)) : OpR X f (r K) := by subst hK; exact h
theorem callR_K {v : Value} {r : PySem.W.Frag → List V → Hp → VK → Prop} (hK : X.K = K) (h : CallR X v (r X.K)) : CallR X v (r K) := by subst hK; exact h
theorem ixR_K {r : PySem.W.Frag → R2} (hK : X.K = K) (h : IxR X (r X.K)) : IxR X (r K) := by subst hK; exact h
theorem slR_K {r : PySem.W.Frag → V → Option Int → Option Int → Hp → VK → Prop} (hK : X.K = K) (h : SlR X (r X.K)) : SlR X (r K) := by subst hK; exact h
theorem pa_starK {e : Expr} {p : Pos} {es : List Expr} {te : TE} {t : TA} (hK : X.K = K) (he : PE X e te) (hr : PA X es t) (hs : starEach (.Starred e p :: es) X.env = (true, eval e X.env) :: starEach es X.env := by rfl) : PA X (.Starred e p :: es) (StX.tStar K te t) := by
  subst hK
  exact StX.pa_star he hr hs
def rLenK (K : PySem.W.Frag) : List V → Hp → VK → Prop := fun xs H Q => ∃ p ys, xs = [.ref p] ∧ (SqL K H p ys ∨ SqT K H p ys) ∧ Q (.int ys.length) H
theorem call_lenK (hK : X.K = K) : CallR X (.builtin "len") (rLenK K) := by subst hK; exact call_len_seq
def rListK (K : PySem.W.Frag) : List V → Hp → VK → Prop := fun xs H Q => ∃ p ys, xs = [.ref p] ∧ (SqL K H p ys ∨ SqT K H p ys) ∧ ∀ l, H l = none → Q (.ref l) (upd H l (.lst ys))
theorem call_listK (hK : X.K = K) : CallR X (.type "list") (rListK K) := by subst hK; exact call_list_of
/-- sorted(xs), texts, any number of them -/
def rSortedSA (K : PySem.W.Frag) : List V → Hp → VK → Prop := fun vs H Q => ∃ (a : Addr) (xs : List Str), vs = [V.ref a] ∧ SqL K H a (xs.map V.str) ∧
  ∀ (ys : List Str) (p : Addr), ys.Perm xs → sortedS ys = true → H p = none → Q (.ref p) (upd H p (.lst (ys.map V.str)))
theorem cr_sortedSA : CallR X (.builtin "sorted") (rSortedSA X.K) := by
  intro pins s σ H vs us Q I r h
  obtain ⟨a, xs, rfl, hs, q⟩ := h
  obtain ⟨its, rv, hl, hz⟩ := I.list hs
  rw [Vals.ref1 r]
  have hlen0 := rv.length
  rw [List.length_map] at hlen0 hz
  refine PyProof.Rows.sorted_strsAny hl.isList rv.strs (by rw [← hlen0]; exact hz) fun out ys h1 h2 h3 => ?_
  obtain ⟨ep, he'⟩ := PyProof.Rows.sortedAll_at s.heap its out
  have hlen : (ys.map V.str).length ≤ sizeLine := by rw [List.length_map, h2.length_eq]; exact hz
  exact ⟨.ref _, upd H (s.heap.objs.size + 1) (.lst (ys.map V.str)), I.laid (t' := s.toks) (fun _ _ => PyProof.Rows.sortedAll_old) (Nat.le_succ _) ⟨hlen, out.toList, ep, vals_of_strs h1, he'⟩, rfl, q ys _ h2 h3 (I.hok.fresh (Nat.le_succ _))⟩
end
theorem fm_bind {α β : Type} (xs : List α) (f : α → Option β) : (List.range xs.length).filterMap (fun i => (xs[i]?).bind f) = xs.filterMap f := by
  induction xs with
  | nil => rfl
  | cons x xs ih =>
    rw [List.length_cons, List.range_succ_eq_map, List.filterMap_cons]
    have e : (List.map Nat.succ (List.range xs.length)).filterMap (fun i => ((x :: xs)[i]?).bind f) = xs.filterMap f := by
      rw [List.filterMap_map, ← ih]
      rfl
    rw [e, List.filterMap_cons]
    rfl
/-- a comprehension over a walk that gives the items of XS: f x is kept (none: not) -/
theorem lc_fm {J : It} {G : Hp → Prop} {Y : Nat → Hp → V → Hp → Prop} {XS : List V} {n : Nat} (w : Walk J n G Y) (hY : Gives Y XS) {g : TG} {tt : TT} {te : TE} {vs : List Nat} {σ : L2.St} {H1 : Hp} {D : Addr} {Qd : Hp → Prop} (hD : H1 D = none) (hn : XS.length ≤ 16777216)
    (hG : ∀ H, Le H1 H → G H) (f : V → Option V)
    (hs : ∀ x H, x ∈ XS → Le H1 H → ∀ N : Option V → Hp → Prop, (∀ H2, Le H H2 → N (f x) H2) → g x (wipe σ vs) H fun σ2 H2 => wipe σ2 vs = wipe σ vs ∧ tt σ2 H2 fun b H3 => if b = true then te σ2 H3 fun y H4 => N (some y) H4 else N none H3)
    (hd : ∀ H, Le H1 H → H D = some (.lst (XS.filterMap f)) → Qd H) (en : n = XS.length := by first | rfl | simp) :
    ∃ W : Nat → Nat → Hp → Prop, (∃ m, W 0 m (upd H1 D (.lst []))) ∧ ∀ i m H, W i m H →
      (J.stop i H ∧ Qd H) ∨ (J.go i H ∧ ∃ Nx : Hp → Prop, (∀ H', Nx H' → ∃ m', m' < m ∧ W (i + 1) m' H') ∧ ∀ x H', J.yld i H x H' → g x (wipe σ vs) H' fun σ2 H2 => wipe σ2 vs = wipe σ vs ∧ tt σ2 H2 fun b H3 =>
        if b = true then te σ2 H3 fun y H4 => ∃ acc, H4 D = some (.lst acc) ∧ acc.length < sizeLine ∧ Nx (upd H4 D (.lst (acc ++ [y]))) else Nx H3) := by
  subst en
  refine lc_pure w hD (le_szl _ hn) hG (fun i H x H' h => by rw [(hY i H x H' h).1]; exact .refl) (fun i => (XS[i]?).bind f) ?_ ?_
  · intro i x H H' hi le y N hN
    obtain ⟨rfl, hx⟩ := hY i H x H' y
    refine hs x H' (List.mem_of_getElem? hx) le N fun H2 l => ?_
    have := hN H2 l
    rw [hx] at this
    exact this
  · intro H le e
    rw [fm_bind] at e
    exact hd H le e
theorem fm_map {α : Type} (xs : List α) (f : V → Option V) (g : α → V) (h : α → V) (e : ∀ x ∈ xs, f (g x) = some (h x)) : (xs.map g).filterMap f = xs.map h := by
  induction xs with
  | nil => rfl
  | cons x xs ih =>
    rw [List.map_cons, List.filterMap_cons, e x List.mem_cons_self, List.map_cons, ih fun y hy => e y (List.mem_cons_of_mem _ hy)]
theorem fm_filter {α : Type} (xs : List α) (f : V → Option V) (g : α → V) (p : α → Bool) (e : ∀ x ∈ xs, f (g x) = if p x then some (g x) else none) : (xs.map g).filterMap f = (xs.filter p).map g := by
  induction xs with
  | nil => rfl
  | cons x xs ih =>
    have h := e x List.mem_cons_self
    rw [List.map_cons, List.filterMap_cons, h, List.filter_cons]
    cases p x with
    | true => simp only [if_true, List.map_cons]; rw [ih fun y hy => e y (List.mem_cons_of_mem _ hy)]
    | false => simp only [Bool.false_eq_true, if_false]; exact ih fun y hy => e y (List.mem_cons_of_mem _ hy)
section
variable {X : Cx} {k j : Nat} {x : Str} {sp : Sp} {dvs : List V} {p pos : Pos}
/-- f(), a def of the module -/
theorem pe_c0 (c : C8.Cal X.prog X.w X.K X.mg X.base k x sp dvs) (hr : Room j X.A) (hk : k ≤ j) (hg : Gl X x) (hdb : (x == ("__debug__" : Str)) = false := by decide) : PE X (.Call (.Name x p) [] [] pos) (tCall sp dvs C8.E0 tNil) := by
  obtain ⟨f, fd, ps, ds, F, hm, kp, b, d⟩ := c.ex
  exact pe_call0 F (hr.mono hk) hg hm kp b d C8.pass0 hdb
end
theorem pg_tupK {X : Cx} {K : PySem.W.Frag} {es : List Expr} {k : Nat} {pos : Pos} {t : TGs} {n : Nat} (hK : X.K = K) (hc : X.calm = true) (h : PGs X es t)
    (hn : (assignEach es X.env).length = n := by rfl) (hst : (assignEach es X.env).findIdx? (·.1) = none := by rfl) : PG X (.Tuple es k pos) (gTup K n t) := by
  subst hK
  exact pg_tup hc h hn hst
theorem fm_zip {α β : Type} (B : List α) : ∀ (f : α → Nat → β), (List.range B.length).filterMap (fun i => (B[i]?).map fun c => f c i) = B.zipIdx.map fun p => f p.1 p.2 := by
  induction B with
  | nil => exact fun _ => rfl
  | cons x B ih =>
    intro f
    have h := ih fun c i => f c (i + 1)
    rw [List.length_cons, List.range_succ_eq_map, List.filterMap_cons, List.filterMap_map, List.zipIdx_cons, List.map_cons]
    show f x 0 :: _ = _
    congr 1
    refine Eq.trans ?_ (h.trans ?_)
    · rfl
    · rw [List.zipIdx_succ, List.map_map]
      rfl
end Od
end
section
set_option Elab.async false
set_option linter.all false
set_option maxRecDepth 100000
set_option maxHeartbeats 2000000
set_option autoImplicit false
/-! the law's own picks -/
namespace Od
open PySem PySem.Spec PyProof.Rows L2 C8
abbrev s__law_pick : Stmt := top 20
abbrev N__law_pick : List Str := ["_law_pen_here", "_law_options"]
abbrev P__law_pick : List Str := ["_law_pen_here", "_law_options"]
theorem sc__law_pick : FnScope N__law_pick P__law_pick (C8.fnScope s__law_pick) := fnScope_by (by decide +kernel)
section
variable {P : Program} {w : World} {K : PySem.W.Frag} {mg : Str → Option Value} {base : Heap}
def sp_pick : Sp := fun vs H Q _ => ∃ (d dl : Addr) (n : Int) (o : V), vs = [.ref d, o] ∧ IsPen H d dl n ∧ n ≤ 1000000000 ∧
  ((∃ z : Str, o = .str z ∧ 0 < z.length ∧ z.length ≤ 1000 ∧ ∀ c H', LeX d H H' → IsPen H' d dl (n + 1) → c ∈ z.cps.toList → Q (.str ⟨#[c]⟩) H') ∨
   (∃ (p : Addr) (xs : List V), o = .ref p ∧ H p = some (.lst xs) ∧ 0 < xs.length ∧ xs.length ≤ 1000000 ∧ ∀ v H', LeX d H H' → IsPen H' d dl (n + 1) → v ∈ xs → Q v H'))
theorem c_pick (T : Txt K mg) (F : DefOf K mg "_law_pick" s__law_pick P__law_pick) (C__law_draw : Cal P w K mg base 1 "_law_draw" sp_draw []) : Cal P w K mg base 2 "_law_pick" sp_pick [] := by
  obtain ⟨f, fd, F, B⟩ := F
  refine cal0 F B .nil sc__law_pick (fun vs H Q E h => by obtain ⟨_, _, _, _, rfl, _⟩ := h; rfl) (fun cdv A outer s H vs Q E hr h => ?_)
  obtain ⟨d, dl, n, o, rfl, pn, n1, h⟩ := h
  have nd := sc__law_pick.nd
  refine ⟨_, (pss_one (ps_ret (pe_ix ix_seq (pv 1) (pe_c C__law_draw hr (by decide) rfl (pa_cons (pv 0) (pa_cons (pe_callB call_len (by rfl) T.b_len (by decide +kernel) (pa_cons (pv 1) pa_nil)) pa_nil))) (fun _ _ => rfl)))), ?_⟩
  rcases h with ⟨z, rfl, z0, z1, q⟩ | ⟨p, xs, rfl, hp, x0, x1, q⟩
  · refine ⟨_, rfl, _, rfl, _, rfl, _, z.length, rfl, ⟨le_szl _ (by omega), rfl⟩, d, dl, _, n, rfl, pn, n1, by omega, lg9 _ (by omega) (by omega), fun r H1 l1 p1 r0 r1 => ?_⟩
    have ez : z.cps.toList.length = z.length := by simp [Str.length]
    obtain ⟨c, hc, e⟩ := at_mem (xs := z.cps.toList) r0 (by rw [ez]; exact r1)
    exact .inr (.inr ⟨z, r, c, rfl, rfl, le_szl _ (by omega), e, q c H1 l1 p1 hc⟩)
  · refine ⟨_, rfl, _, rfl, _, rfl, _, xs.length, rfl, .inl ⟨xs, .of hp, rfl⟩, d, dl, _, n, rfl, pn, n1, by omega, lg9 _ (by omega) (by omega), fun r H1 l1 p1 r0 r1 => ?_⟩
    obtain ⟨v, hv, e⟩ := at_mem (xs := xs) r0 r1
    exact .inl ⟨p, xs, r, v, rfl, rfl, .of (l1 _ _ (pn.ne hp) hp), e, q v H1 l1 p1 hv⟩
end
end Od
end
section
set_option Elab.async false
set_option linter.all false
set_option autoImplicit false
/-! least lists that have one of each: plain -/
namespace Los
section
variable {α : Type} {lt : α → α → Prop}
def Sub (a b : List α) : Prop := ∀ x ∈ a, x ∈ b
theorem Sub.refl (a : List α) : Sub a a := fun _ h => h
theorem Sub.tr {a b c : List α} (h : Sub a b) (k : Sub b c) : Sub a c := fun x hx => k x (h x hx)
structure SO (lt : α → α → Prop) : Prop where
  irr : ∀ a, ¬ lt a a
  tr : ∀ a b c, lt a b → lt b c → lt a c
theorem ext (o : SO lt) : ∀ {a b : List α}, a.Pairwise lt → b.Pairwise lt → (∀ x, x ∈ a ↔ x ∈ b) → a = b
  | [], [], _, _, _ => rfl
  | [], y :: b, _, _, h => absurd ((h y).mpr List.mem_cons_self) (by simp)
  | x :: a, [], _, _, h => absurd ((h x).mp List.mem_cons_self) (by simp)
  | x :: a, y :: b, pa, pb, h => by
    have pa' := List.pairwise_cons.mp pa
    have pb' := List.pairwise_cons.mp pb
    have e : x = y := by
      rcases List.mem_cons.mp ((h x).mp List.mem_cons_self) with e | e
      · exact e
      rcases List.mem_cons.mp ((h y).mpr List.mem_cons_self) with f | f
      · exact f.symm
      exact absurd (o.tr _ _ _ (pa'.1 y f) (pb'.1 x e)) (o.irr x)
    subst e
    rw [ext o pa'.2 pb'.2 fun z => ?_]
    constructor
    · intro hz
      rcases List.mem_cons.mp ((h z).mp (List.mem_cons_of_mem _ hz)) with e | e
      · subst e; exact absurd (pa'.1 z hz) (o.irr z)
      · exact e
    · intro hz
      rcases List.mem_cons.mp ((h z).mpr (List.mem_cons_of_mem _ hz)) with e | e
      · subst e; exact absurd (pb'.1 z hz) (o.irr z)
      · exact e
theorem SO.nodup (o : SO lt) {a : List α} (h : a.Pairwise lt) : a.Nodup := List.nodup_iff_pairwise_ne.mpr (h.imp (S := fun a b => a ≠ b) fun {x y} l e => by rw [← e] at l; exact o.irr x l)
end
section
variable {α : Type} [DecidableEq α] {lt : α → α → Prop}
theorem sub_len : ∀ {a b : List α}, a.Nodup → Sub a b → a.length ≤ b.length
  | [], b, _, _ => Nat.zero_le _
  | x :: a, b, nd, h => by
    have nd' := List.nodup_cons.mp nd
    have hx := h x List.mem_cons_self
    have := sub_len (a := a) (b := b.erase x) nd'.2 fun y hy => (List.mem_erase_of_ne (fun e => nd'.1 (by rw [← e]; exact hy))).mpr (h y (List.mem_cons_of_mem _ hy))
    rw [List.length_erase_of_mem hx] at this
    have := List.length_pos_of_mem hx
    rw [List.length_cons]
    omega
theorem sub_eq (o : SO lt) {a b : List α} (pa : a.Pairwise lt) (pb : b.Pairwise lt) (h : Sub a b) (l : b.length ≤ a.length) : a = b := by
  refine ext o pa pb fun x => ⟨h x, fun hx => ?_⟩
  refine Classical.byContradiction fun c => ?_
  have := sub_len (a := x :: a) (b := b) (List.nodup_cons.mpr ⟨c, o.nodup pa⟩) fun y hy => by
    rcases List.mem_cons.mp hy with e | e
    · subst e; exact hx
    · exact h y e
  rw [List.length_cons] at this
  omega
theorem sub_lt (o : SO lt) {a b : List α} (pa : a.Pairwise lt) (pb : b.Pairwise lt) (h : Sub a b) (ne : a ≠ b) : a.length < b.length :=
  Nat.lt_of_not_le fun l => ne (sub_eq o pa pb h l)
/-! ### the least ones of a list of rows -/
/-- y is of R, and no other one of R is a part of it -/
def Lst (R : List (List α)) (y : List α) : Prop := y ∈ R ∧ ∀ z ∈ R, Sub z y → z = y
theorem lst_ex (o : SO lt) {R : List (List α)} (hR : ∀ r ∈ R, r.Pairwise lt) : ∀ (n : Nat) (z : List α), z.length ≤ n → z ∈ R → ∃ b, Lst R b ∧ Sub b z := by
  intro n
  induction n with
  | zero =>
    intro z hz hm
    refine ⟨z, ⟨hm, fun w hw hs => ?_⟩, Sub.refl z⟩
    refine sub_eq o (hR w hw) (hR z hm) hs (by omega)
  | succ n ih =>
    intro z hz hm
    by_cases c : ∀ w ∈ R, Sub w z → w = z
    · exact ⟨z, ⟨hm, c⟩, Sub.refl z⟩
    · obtain ⟨w, h1⟩ := Classical.not_forall.mp c
      obtain ⟨hw, h2⟩ := Classical.not_imp.mp h1
      obtain ⟨hs, hne⟩ := Classical.not_imp.mp h2
      have := sub_lt o (hR w hw) (hR z hm) hs hne
      obtain ⟨b, hb, hs2⟩ := ih w (by omega) hw
      exact ⟨b, hb, hs2.tr hs⟩
def keep1 (acc : List (List α)) (r : List α) : List (List α) := if acc.any (fun b => b.all fun x => decide (x ∈ r)) then acc else acc ++ [r]
theorem keep1_iff (acc : List (List α)) (r : List α) : (acc.any (fun b => b.all fun x => decide (x ∈ r))) = true ↔ ∃ b ∈ acc, Sub b r := by
  rw [List.any_eq_true]
  constructor
  · rintro ⟨b, hb, h⟩
    exact ⟨b, hb, fun x hx => of_decide_eq_true (List.all_eq_true.mp h x hx)⟩
  · rintro ⟨b, hb, h⟩
    exact ⟨b, hb, List.all_eq_true.mpr fun x hx => decide_eq_true (h x hx)⟩
def keep (R : List (List α)) : List (List α) := R.foldl keep1 []
theorem keep_snoc (P : List (List α)) (r : List α) : keep (P ++ [r]) = keep1 (keep P) r := by
  unfold keep
  rw [List.foldl_append]
  rfl
/-- rows in an order in which a part never comes behind -/
structure Good (lt : α → α → Prop) (R : List (List α)) : Prop where
  asc : ∀ r ∈ R, r.Pairwise lt
  ord : R.Pairwise fun a b => ¬ Sub b a
theorem Good.init {P : List (List α)} {r : List α} (g : Good lt (P ++ [r])) : Good lt P ∧ r.Pairwise lt ∧ ∀ y ∈ P, ¬ Sub r y := by
  have := List.pairwise_append.mp g.ord
  exact ⟨⟨fun x hx => g.asc x (List.mem_append_left _ hx), this.1⟩, g.asc r (by simp), fun y hy => this.2.2 y hy r (by simp)⟩
theorem keep_main (o : SO lt) : ∀ (n : Nat) (R : List (List α)), R.length = n → Good lt R → (keep R).Sublist R ∧ ∀ y, y ∈ keep R ↔ Lst R y := by
  intro n
  induction n with
  | zero =>
    intro R hl g
    have : R = [] := List.length_eq_zero_iff.mp hl
    subst this
    exact ⟨List.Sublist.refl _, fun y => ⟨fun h => (by simp [keep] at h), fun h => absurd h.1 (by simp)⟩⟩
  | succ n ih =>
    intro R hl g
    have hne : R ≠ [] := fun e => by subst e; simp at hl
    obtain ⟨P, r, rfl⟩ : ∃ P r, R = P ++ [r] := ⟨R.dropLast, R.getLast hne, (List.dropLast_concat_getLast hne).symm⟩
    obtain ⟨gP, ar, nr⟩ := g.init
    obtain ⟨sP, mP⟩ := ih P (by simp at hl; omega) gP
    have rP : r ∉ P := fun h => nr r h (Sub.refl r)
    rw [keep_snoc]
    unfold keep1
    by_cases c : ((keep P).any fun b => b.all fun x => decide (x ∈ r)) = true
    · rw [if_pos c]
      obtain ⟨b, hb, hs⟩ := (keep1_iff _ _).mp c
      have hbP := (mP b).mp hb
      refine ⟨sP.trans (List.sublist_append_left _ _), fun y => (mP y).trans ⟨fun h => ⟨List.mem_append_left _ h.1, fun z hz hzs => ?_⟩, fun h => ?_⟩⟩
      · rcases List.mem_append.mp hz with e | e
        · exact h.2 z e hzs
        · rw [List.mem_singleton.mp e] at hzs
          exact absurd hzs (nr y h.1)
      · rcases List.mem_append.mp h.1 with e | e
        · exact ⟨e, fun z hz => h.2 z (List.mem_append_left _ hz)⟩
        · rw [List.mem_singleton.mp e] at h
          have := h.2 b (List.mem_append_left _ hbP.1) hs
          exact absurd (this ▸ hbP.1) rP
    · rw [if_neg c]
      refine ⟨sP.append (List.Sublist.refl _), fun y => ?_⟩
      rw [List.mem_append, mP]
      constructor
      · rintro (h | h)
        · refine ⟨List.mem_append_left _ h.1, fun z hz hzs => ?_⟩
          rcases List.mem_append.mp hz with e | e
          · exact h.2 z e hzs
          · rw [List.mem_singleton.mp e] at hzs
            exact absurd hzs (nr y h.1)
        · have e := List.mem_singleton.mp h
          subst e
          refine ⟨by simp, fun z hz hzs => ?_⟩
          rcases List.mem_append.mp hz with e | e
          · obtain ⟨b, hb, hs⟩ := lst_ex o gP.asc _ z (Nat.le_refl _) e
            exact absurd ((keep1_iff _ _).mpr ⟨b, (mP b).mpr hb, hs.tr hzs⟩) c
          · exact List.mem_singleton.mp e
      · intro h
        rcases List.mem_append.mp h.1 with e | e
        · exact .inl ⟨e, fun z hz => h.2 z (List.mem_append_left _ hz)⟩
        · exact .inr e
theorem keep_iff (o : SO lt) {R : List (List α)} (g : Good lt R) (y : List α) : y ∈ keep R ↔ Lst R y := (keep_main o _ R rfl g).2 y
theorem keep_sub (o : SO lt) {R : List (List α)} (g : Good lt R) : (keep R).Sublist R := (keep_main o _ R rfl g).1
/-! ### hits -/
def Meets (c r : List α) : Prop := ∃ n ∈ c, n ∈ r
def Hit (cs : List (List α)) (r : List α) : Prop := ∀ c ∈ cs, Meets c r
def MinH (lt : α → α → Prop) (cs : List (List α)) (r : List α) : Prop := r.Pairwise lt ∧ Hit cs r ∧ ∀ z : List α, z.Pairwise lt → Hit cs z → Sub z r → z = r
theorem Meets.sub {c r z : List α} (h : Meets c r) (s : Sub r z) : Meets c z := by
  obtain ⟨n, h1, h2⟩ := h
  exact ⟨n, h1, s n h2⟩
theorem min_ex (o : SO lt) {cs : List (List α)} : ∀ (n : Nat) (z : List α), z.length ≤ n → z.Pairwise lt → Hit cs z → ∃ r, MinH lt cs r ∧ Sub r z := by
  intro n
  induction n with
  | zero =>
    intro z hz pz hh
    exact ⟨z, ⟨pz, hh, fun w pw hw hs => sub_eq o pw pz hs (by omega)⟩, Sub.refl z⟩
  | succ n ih =>
    intro z hz pz hh
    by_cases c : ∀ w : List α, w.Pairwise lt → Hit cs w → Sub w z → w = z
    · exact ⟨z, ⟨pz, hh, c⟩, Sub.refl z⟩
    · obtain ⟨w, h1⟩ := Classical.not_forall.mp c
      obtain ⟨pw, h2⟩ := Classical.not_imp.mp h1
      obtain ⟨hw, h3⟩ := Classical.not_imp.mp h2
      obtain ⟨hs, hne⟩ := Classical.not_imp.mp h3
      have := sub_lt o pw pz hs hne
      obtain ⟨b, hb, hs2⟩ := ih w (by omega) pw hw
      exact ⟨b, hb, hs2.tr hs⟩
/-- what the program makes of a row and a coalition -/
def Grow (lt : α → α → Prop) (c r r' : List α) : Prop := (Meets c r ∧ r' = r) ∨ (¬ Meets c r ∧ ∃ n ∈ c, r'.Pairwise lt ∧ ∀ x, x ∈ r' ↔ x ∈ r ∨ x = n)
theorem berge (o : SO lt) {cs F L S : List (List α)} {c : List α} (hF : ∀ r, r ∈ F ↔ MinH lt cs r) (hL : ∀ r', r' ∈ L → ∃ r ∈ F, Grow lt c r r') (hL2 : ∀ r ∈ F, ∀ r', Grow lt c r r' → r' ∈ L) (hS : ∀ y, y ∈ S ↔ Lst L y) (y : List α)
    (mk : ∀ (r : List α) (n : α), r ∈ F → n ∈ c → n ∉ r → ∃ r' : List α, r'.Pairwise lt ∧ ∀ x, x ∈ r' ↔ x ∈ r ∨ x = n) : y ∈ S ↔ MinH lt (cs ++ [c]) y := by
  have hit_iff : ∀ z, Hit (cs ++ [c]) z ↔ Hit cs z ∧ Meets c z := fun z => by
    constructor
    · exact fun h => ⟨fun d hd => h d (List.mem_append_left _ hd), h c (by simp)⟩
    · rintro ⟨h1, h2⟩ d hd
      rcases List.mem_append.mp hd with e | e
      · exact h1 d e
      · rw [List.mem_singleton.mp e]; exact h2
  have good : ∀ z ∈ L, z.Pairwise lt ∧ Hit (cs ++ [c]) z := fun z hz => by
    obtain ⟨r, hr, g⟩ := hL z hz
    have m := (hF r).mp hr
    rcases g with ⟨g1, rfl⟩ | ⟨_, n, hn, g3, g4⟩
    · exact ⟨m.1, (hit_iff _).mpr ⟨m.2.1, g1⟩⟩
    · refine ⟨g3, (hit_iff _).mpr ⟨fun d hd => (m.2.1 d hd).sub fun x hx => (g4 x).mpr (.inl hx), n, hn, (g4 n).mpr (.inr rfl)⟩⟩
  have cov : ∀ z : List α, z.Pairwise lt → Hit (cs ++ [c]) z → ∃ w ∈ L, Sub w z := fun z pz hz => by
    obtain ⟨h1, h2⟩ := (hit_iff z).mp hz
    obtain ⟨r, mr, rs⟩ := min_ex o _ z (Nat.le_refl _) pz h1
    have hr := (hF r).mpr mr
    by_cases d : Meets c r
    · exact ⟨r, hL2 r hr r (.inl ⟨d, rfl⟩), rs⟩
    · obtain ⟨n, hn, hnz⟩ := h2
      obtain ⟨r', p', m'⟩ := mk r n hr hn fun h => d ⟨n, hn, h⟩
      refine ⟨r', hL2 r hr r' (.inr ⟨d, n, hn, p', m'⟩), fun x hx => ?_⟩
      rcases (m' x).mp hx with e | e
      · exact rs x e
      · rw [e]; exact hnz
  rw [hS]
  constructor
  · rintro ⟨h1, h2⟩
    obtain ⟨g1, g2⟩ := good y h1
    refine ⟨g1, g2, fun z pz hz hs => ?_⟩
    obtain ⟨w, hw, ws⟩ := cov z pz hz
    have := h2 w hw (ws.tr hs)
    subst this
    exact sub_eq o pz g1 hs (sub_len (o.nodup g1) ws)
  · rintro ⟨h1, h2, h3⟩
    obtain ⟨w, hw, ws⟩ := cov y h1 h2
    obtain ⟨g1, g2⟩ := good w hw
    have := h3 w g1 g2 ws
    subst this
    exact ⟨hw, fun z hz hs => h3 z (good z hz).1 (good z hz).2 hs⟩
/-- a least hit lies within any row that has all coalitions -/
theorem min_within (o : SO lt) {cs : List (List α)} {U y : List α} (hU : ∀ c ∈ cs, Sub c U) (h : MinH lt cs y) : Sub y U := by
  have e := h.2.2 (y.filter fun x => decide (x ∈ U)) (h.1.sublist List.filter_sublist) (fun c hc => by
    obtain ⟨n, h1, h2⟩ := h.2.1 c hc
    exact ⟨n, h1, List.mem_filter.mpr ⟨h2, decide_eq_true (hU c hc n h1)⟩⟩) (fun x hx => (List.mem_filter.mp hx).1)
  intro x hx
  rw [← e] at hx
  exact of_decide_eq_true (List.mem_filter.mp hx).2
/-- the least hits among all parts of U -/
theorem due_iff (o : SO lt) {cs AL : List (List α)} {U y : List α} (hU : ∀ c ∈ cs, Sub c U) (hA : ∀ r, r ∈ AL ↔ r.Pairwise lt ∧ Sub r U) {hits : List (List α)} (hh : ∀ r, r ∈ hits ↔ r ∈ AL ∧ Hit cs r) : Lst hits y ↔ MinH lt cs y := by
  constructor
  · rintro ⟨h1, h2⟩
    obtain ⟨ha, hc⟩ := (hh y).mp h1
    obtain ⟨pa, sa⟩ := (hA y).mp ha
    refine ⟨pa, hc, fun z pz hz hs => h2 z ((hh z).mpr ⟨(hA z).mpr ⟨pz, hs.tr sa⟩, hz⟩) hs⟩
  · intro h
    have sU := min_within o hU h
    refine ⟨(hh y).mpr ⟨(hA y).mpr ⟨h.1, sU⟩, h.2.1⟩, fun z hz hs => ?_⟩
    obtain ⟨ha, hc⟩ := (hh z).mp hz
    exact h.2.2 z ((hA z).mp ha).1 hc hs
/-! ### by sizes -/
def bySize (n : Nat) (R : List (List α)) : List (List α) := (List.range n).flatMap fun k => R.filter fun r => decide (r.length = k)
theorem mem_bySize {n : Nat} {R : List (List α)} {r : List α} : r ∈ bySize n R ↔ r ∈ R ∧ r.length < n := by
  unfold bySize
  simp only [List.mem_flatMap, List.mem_range, List.mem_filter, decide_eq_true_eq]
  constructor
  · rintro ⟨k, hk, hr, e⟩; exact ⟨hr, by omega⟩
  · rintro ⟨hr, h⟩; exact ⟨_, h, hr, rfl⟩
theorem bySize_good (o : SO lt) {R : List (List α)} (hR : ∀ r ∈ R, r.Pairwise lt) (nd : R.Nodup) : ∀ n, Good lt (bySize n R)
  | 0 => ⟨fun r hr => by simp [bySize] at hr, by simp [bySize]⟩
  | n + 1 => by
    have ih := bySize_good o hR nd n
    refine ⟨fun r hr => hR r (mem_bySize.mp hr).1, ?_⟩
    have e : bySize (n + 1) R = bySize n R ++ R.filter fun r => decide (r.length = n) := by
      unfold bySize
      rw [List.range_succ, List.flatMap_append]
      simp
    rw [e]
    refine List.pairwise_append.mpr ⟨ih.ord, ?_, ?_⟩
    · refine List.Pairwise.imp_of_mem (R := fun a b => a ≠ b) (fun {a b} ha hb ne hs => ?_) (List.nodup_iff_pairwise_ne.mp (nd.sublist List.filter_sublist))
      obtain ⟨h1, h2⟩ := List.mem_filter.mp ha
      obtain ⟨h3, h4⟩ := List.mem_filter.mp hb
      have e1 := of_decide_eq_true h2
      have e2 := of_decide_eq_true h4
      exact ne (sub_eq o (hR b h3) (hR a h1) hs (by omega)).symm
    · intro a ha b hb hs
      obtain ⟨h1, h2⟩ := mem_bySize.mp ha
      obtain ⟨h3, h4⟩ := List.mem_filter.mp hb
      have e2 := of_decide_eq_true h4
      have := sub_len (o.nodup (hR b h3)) hs
      omega
/-! ### all parts -/
def subs : List α → List (List α)
  | [] => [[]]
  | a :: l => subs l ++ (subs l).map (a :: ·)
theorem subs_len : ∀ l : List α, (subs l).length = 2 ^ l.length
  | [] => rfl
  | a :: l => by
    show (subs l ++ (subs l).map (a :: ·)).length = _
    rw [List.length_append, List.length_map, subs_len l, List.length_cons, Nat.pow_succ]
    omega
theorem mem_subs (o : SO lt) : ∀ {U r : List α}, U.Pairwise lt → r.Pairwise lt → Sub r U → r ∈ subs U
  | [], r, _, _, h => by
    have : r = [] := List.eq_nil_iff_forall_not_mem.mpr fun x hx => absurd (h x hx) (by simp)
    subst this
    exact List.mem_cons_self
  | a :: U, [], pU, pr, h => by
    refine List.mem_append_left _ (mem_subs o (List.pairwise_cons.mp pU).2 List.Pairwise.nil fun x hx => by simp at hx)
  | a :: U, x :: r, pU, pr, h => by
    have pU' := List.pairwise_cons.mp pU
    have pr' := List.pairwise_cons.mp pr
    by_cases e : x = a
    · subst e
      refine List.mem_append_right _ (List.mem_map.mpr ⟨r, mem_subs o pU'.2 pr'.2 fun y hy => ?_, rfl⟩)
      rcases List.mem_cons.mp (h y (List.mem_cons_of_mem _ hy)) with q | q
      · subst q; exact absurd (pr'.1 y hy) (o.irr y)
      · exact q
    · refine List.mem_append_left _ (mem_subs o pU'.2 pr fun y hy => ?_)
      rcases List.mem_cons.mp (h y hy) with q | q
      · subst q
        rcases List.mem_cons.mp hy with f | f
        · exact absurd f.symm e
        · have hx := h x List.mem_cons_self
          rcases List.mem_cons.mp hx with g | g
          · exact absurd g e
          · exact absurd (o.tr _ _ _ (pr'.1 y f) (pU'.1 x g)) (o.irr x)
      · exact q
theorem rows_le (o : SO lt) {U : List α} (pU : U.Pairwise lt) {F : List (List α)} (nd : F.Nodup) (h : ∀ r ∈ F, r.Pairwise lt ∧ Sub r U) : F.length ≤ 2 ^ U.length := by
  rw [← subs_len U]
  exact sub_len nd fun r hr => mem_subs o pU (h r hr).1 (h r hr).2
theorem ins_ex (o : SO lt) (tri : ∀ a b, ¬ lt b a → a ≠ b → lt a b) : ∀ {r : List α} {n : α}, r.Pairwise lt → n ∉ r → ∃ r' : List α, r'.Pairwise lt ∧ ∀ x, x ∈ r' ↔ x ∈ r ∨ x = n
  | [], n, _, _ => ⟨[n], List.pairwise_singleton _ _, fun x => by simp⟩
  | y :: r, n, p, h => by
    have p' := List.pairwise_cons.mp p
    have hy : n ≠ y := fun e => h (by rw [e]; exact List.mem_cons_self)
    by_cases c : lt n y
    · refine ⟨n :: y :: r, List.pairwise_cons.mpr ⟨fun z hz => ?_, p⟩, fun x => by simp; constructor <;> (intro h; rcases h with h | h | h <;> simp [h])⟩
      rcases List.mem_cons.mp hz with e | e
      · rw [e]; exact c
      · exact o.tr _ _ _ c (p'.1 z e)
    · have c2 : lt y n := tri y n c hy.symm
      obtain ⟨r', q, m⟩ := ins_ex o tri (r := r) (n := n) p'.2 fun e => h (List.mem_cons_of_mem _ e)
      refine ⟨y :: r', List.pairwise_cons.mpr ⟨fun z hz => ?_, q⟩, fun x => ?_⟩
      · rcases (m z).mp hz with e | e
        · exact p'.1 z e
        · rw [e]; exact c2
      · rw [List.mem_cons, List.mem_cons, m, or_assoc]
end
end Los
end
section
set_option Elab.async false
set_option linter.all false
set_option autoImplicit false
/-! written forms as texts -/
namespace Od
open PySem PySem.Spec PyProof.Rows L2 Day
def numS (n : Int) : Str := Str.ofString (toString n)
theorem numS_tl (n : Int) : (numS n).cps.toList = if n < 0 then 45 :: TL.numL n.natAbs else TL.numL n.natAbs := by
  cases n with
  | ofNat m =>
    rw [if_neg (by show ¬ ((m : Int) < 0); omega)]
    exact TL.tl_num m
  | negSucc m =>
    rw [if_pos (Int.negSucc_lt_zero m)]
    unfold numS
    rw [Str.ofString_eq_toList]
    show ("-" ++ Nat.repr (m + 1)).toList.map Char.toNat = _
    rw [String.toList_append, List.map_append, Nat.toList_repr]
    rfl
theorem numS_inj {m n : Int} (h : numS m = numS n) : m = n := by
  have e : (numS m).cps.toList = (numS n).cps.toList := by rw [h]
  rw [numS_tl, numS_tl] at e
  have nd : ∀ k : Nat, ∀ l : List Nat, TL.numL k ≠ 45 :: l := fun k l z => by
    have : 45 ∈ TL.numL k := by rw [z]; exact List.mem_cons_self
    exact TL.numL_free (.inl (by decide)) this
  by_cases h1 : m < 0
  · by_cases h2 : n < 0
    · rw [if_pos h1, if_pos h2] at e
      injection e with _ e
      have := TL.numL_inj e
      omega
    · rw [if_pos h1, if_neg h2] at e
      exact absurd e.symm (nd _ _)
  · by_cases h2 : n < 0
    · rw [if_neg h1, if_pos h2] at e
      exact absurd e (nd _ _)
    · rw [if_neg h1, if_neg h2] at e
      have := TL.numL_inj e
      omega
theorem numS_free {k : Nat} (h : k < 45 ∨ (45 < k ∧ k < 48) ∨ 57 < k) (n : Int) : k ∉ (numS n).cps.toList := by
  rw [numS_tl]
  split
  · intro hm
    rcases List.mem_cons.mp hm with e | hm
    · omega
    · exact TL.numL_free (by omega) hm
  · exact TL.numL_free (by omega)
theorem numS_len {n : Int} {k : Nat} (hk : 0 < k) (h : n.natAbs < 10 ^ k) : (numS n).length ≤ k + 1 := by
  have e : (numS n).length = (numS n).cps.toList.length := by simp [Str.length]
  have := TL.numL_len hk h
  rw [e, numS_tl]
  split
  · rw [List.length_cons]; omega
  · omega
/-- the middle as a word -/
def midS (m : List Bool) : Str := if m = [] then ("-" : Str) else rowS m
def strF (F : Frm) : Str := Str.empty ++ rowS F.l ++ (" " : Str) ++ numS F.low ++ (" " : Str) ++ midS F.m ++ (" " : Str) ++ rowS F.r
theorem app_tl (a b : Str) : (a ++ b).cps.toList = a.cps.toList ++ b.cps.toList := by
  show (a.cps ++ b.cps).toList = _
  simp
theorem tl_sp : ((" " : Str)).cps.toList = [32] := by decide +kernel
theorem tl_dash : (("-" : Str)).cps.toList = [45] := by decide +kernel
theorem strF_tl (F : Frm) : (strF F).cps.toList = F.l.map sg ++ 32 :: ((numS F.low).cps.toList ++ 32 :: ((midS F.m).cps.toList ++ 32 :: F.r.map sg)) := by
  unfold strF
  rw [app_tl, app_tl, app_tl, app_tl, app_tl, app_tl, app_tl, tl_sp, rowS_tl, rowS_tl]
  show (([] ++ F.l.map sg ++ [32]) ++ _ ++ _ ++ _ ++ _ ++ _) = _
  simp
theorem cut_at {c : Nat} : ∀ {a a' b b' : List Nat}, c ∉ a → c ∉ a' → a ++ c :: b = a' ++ c :: b' → a = a' ∧ b = b'
  | [], [], _, _, _, _, e => ⟨rfl, by injection e⟩
  | [], x :: a', _, _, _, h, e => by
    injection e with e1 _
    exact absurd (by rw [e1]; exact List.mem_cons_self) h
  | x :: a, [], _, _, h, _, e => by
    injection e with e1 _
    exact absurd (by rw [← e1]; exact List.mem_cons_self) h
  | x :: a, y :: a', b, b', h, h', e => by
    injection e with e1 e2
    obtain ⟨q1, q2⟩ := cut_at (fun m => h (List.mem_cons_of_mem _ m)) (fun m => h' (List.mem_cons_of_mem _ m)) e2
    exact ⟨by rw [e1, q1], q2⟩
theorem sg_free {l : List Bool} {k : Nat} (h : k ≠ 48) (h' : k ≠ 49) : k ∉ l.map sg := fun m => by
  obtain ⟨b, _, e⟩ := List.mem_map.mp m
  cases b
  · exact h e.symm
  · exact h' e.symm
theorem midS_tl (m : List Bool) : (midS m).cps.toList = if m = [] then [45] else m.map sg := by
  unfold midS
  split
  · exact tl_dash
  · rfl
theorem midS_inj {m n : List Bool} (h : (midS m).cps.toList = (midS n).cps.toList) : m = n := by
  rw [midS_tl, midS_tl] at h
  by_cases h1 : m = []
  · by_cases h2 : n = []
    · rw [h1, h2]
    · rw [if_pos h1, if_neg h2] at h
      exact absurd (by rw [← h]; exact List.mem_cons_self) (sg_free (l := n) (k := 45) (by decide) (by decide))
  · by_cases h2 : n = []
    · rw [if_neg h1, if_pos h2] at h
      exact absurd (by rw [h]; exact List.mem_cons_self) (sg_free (l := m) (k := 45) (by decide) (by decide))
    · rw [if_neg h1, if_neg h2] at h
      exact rowS_inj (congrArg SX.S h)
theorem midS_free {k : Nat} (h : k ≠ 48) (h' : k ≠ 49) (h2 : k ≠ 45) (m : List Bool) : k ∉ (midS m).cps.toList := by
  rw [midS_tl]
  split
  · simp [h2]
  · exact sg_free h h'
theorem strF_inj {F G : Frm} (h : strF F = strF G) : F = G := by
  have e : (strF F).cps.toList = (strF G).cps.toList := by rw [h]
  rw [strF_tl, strF_tl] at e
  obtain ⟨e1, e⟩ := cut_at (sg_free (by decide) (by decide)) (sg_free (by decide) (by decide)) e
  obtain ⟨e2, e⟩ := cut_at (numS_free (.inl (by decide)) _) (numS_free (.inl (by decide)) _) e
  obtain ⟨e3, e4⟩ := cut_at (midS_free (by decide) (by decide) (by decide) _) (midS_free (by decide) (by decide) (by decide) _) e
  have h1 := rowS_inj (congrArg SX.S e1)
  have h2 := numS_inj (n := G.low) (m := F.low) (TL.ext_tl e2)
  have h3 := midS_inj e3
  have h4 := rowS_inj (congrArg SX.S e4)
  cases F
  cases G
  simp only at h1 h2 h3 h4
  rw [h1, h2, h3, h4]
end Od
end
section
set_option Elab.async false
set_option linter.all false
set_option maxRecDepth 100000
set_option maxHeartbeats 2000000
set_option autoImplicit false
/-! rows of texts: what they are, their order, their written forms -/
namespace Od
open PySem PySem.Spec PyProof.Rows L2 C8
abbrev Row := List Str
/-- the order of texts -/
def ltS (a b : Str) : Prop := a.cps.toList < b.cps.toList
theorem ltS_so : Los.SO ltS := ⟨fun a h => List.lt_irrefl _ h, fun a b c h k => List.lt_trans h k⟩
theorem ltS_tri {a b : Str} (h : ¬ ltS b a) (ne : a ≠ b) : ltS a b := by
  have h1 : a.cps.toList ≤ b.cps.toList := h
  rcases Classical.em (a.cps.toList < b.cps.toList) with c | c
  · exact c
  · have h2 : b.cps.toList ≤ a.cps.toList := c
    exact absurd (TL.ext_tl (List.le_antisymm h1 h2)) ne
theorem ltS_asc {ys : List Str} (h : sortedS ys = true) (nd : ys.Nodup) : ys.Pairwise ltS := by
  have key : ∀ (ys : List Str) (p : Str), risingS p ys = true → (p :: ys).Nodup → (p :: ys).Pairwise ltS := by
    intro ys
    induction ys with
    | nil => intro p _ _; exact List.pairwise_singleton _ _
    | cons x r ih =>
      intro p h nd
      have h : (!ltCps x.cps.toList p.cps.toList && risingS x r) = true := h
      rw [Bool.and_eq_true, Bool.not_eq_true', ltCps_eq, decide_eq_false_iff_not] at h
      have nd' := List.nodup_cons.mp nd
      have rest := ih x h.2 nd'.2
      have one : ltS p x := ltS_tri h.1 fun e => nd'.1 (by rw [e]; exact List.mem_cons_self)
      refine List.pairwise_cons.mpr ⟨fun y hy => ?_, rest⟩
      rcases List.mem_cons.mp hy with e | e
      · rw [e]; exact one
      · exact ltS_so.tr _ _ _ one ((List.pairwise_cons.mp rest).1 y e)
  cases ys with
  | nil => exact List.Pairwise.nil
  | cons x r => exact key r x h nd
/-- a name's signs are small letters -/
def Nm (z : Str) : Prop := (∀ c ∈ z.cps.toList, 97 ≤ c ∧ c ≤ 122) ∧ z.length ≤ 12
/-- a row: names, ascending -/
structure Rw (r : Row) : Prop where
  asc : r.Pairwise ltS
  nm : ∀ z ∈ r, Nm z
  few : r.length ≤ 8
/-- the signs by which rows are in order -/
def tx (s : Nat) (r : Row) : List Nat := (48 + r.length) :: r.flatMap fun z => s :: z.cps.toList
def rl (a b : Row) : Prop := tx 10 a < tx 10 b
theorem rl_so : Los.SO rl := ⟨fun a h => List.lt_irrefl _ h, fun a b c h k => List.lt_trans h k⟩
theorem rl_len {a b : Row} (h : a.length < b.length) : rl a b := List.cons_lt_cons_iff.mpr (.inl (by omega))
theorem flat_ne10 {z : Str} (h : Nm z) : ∀ c ∈ z.cps.toList, c ≠ 10 := fun c hc => by have := h.1 c hc; omega
theorem split10 : ∀ {x y u v : List Nat}, (∀ c ∈ x, c ≠ 10) → (∀ c ∈ y, c ≠ 10) → (u = [] ∨ u.head? = some 10) → (v = [] ∨ v.head? = some 10) → x ++ u = y ++ v → x = y ∧ u = v
  | [], [], u, v, _, _, _, _, e => ⟨rfl, e⟩
  | [], c :: y, u, v, _, hy, hu, _, e => by
    have e : u = c :: (y ++ v) := e
    rcases hu with h | h
    · rw [h] at e; cases e
    · rw [e] at h
      exact absurd (Option.some.inj h) (hy c List.mem_cons_self)
  | c :: x, [], u, v, hx, _, _, hv, e => by
    have e : c :: (x ++ u) = v := e
    rcases hv with h | h
    · rw [h] at e; cases e
    · rw [← e] at h
      exact absurd (Option.some.inj h) (hx c List.mem_cons_self)
  | c :: x, d :: y, u, v, hx, hy, hu, hv, e => by
    have e : c :: (x ++ u) = d :: (y ++ v) := e
    injection e with e1 e2
    obtain ⟨h1, h2⟩ := split10 (fun z hz => hx z (List.mem_cons_of_mem _ hz)) (fun z hz => hy z (List.mem_cons_of_mem _ hz)) hu hv e2
    exact ⟨by rw [e1, h1], h2⟩
theorem flat_head (b : Row) : (b.flatMap fun z : Str => 10 :: z.cps.toList) = [] ∨ (b.flatMap fun z : Str => 10 :: z.cps.toList).head? = some 10 := by
  cases b with
  | nil => exact .inl rfl
  | cons x b => exact .inr rfl
theorem flat_inj : ∀ {a b : Row}, (∀ z ∈ a, Nm z) → (∀ z ∈ b, Nm z) → (a.flatMap fun z : Str => 10 :: z.cps.toList) = (b.flatMap fun z : Str => 10 :: z.cps.toList) → a = b
  | [], [], _, _, _ => rfl
  | [], y :: b, _, _, e => by simp at e
  | x :: a, [], _, _, e => by simp at e
  | x :: a, y :: b, ha, hb, e => by
    rw [List.flatMap_cons, List.flatMap_cons, List.cons_append, List.cons_append] at e
    injection e with _ e
    obtain ⟨h1, h2⟩ := split10 (flat_ne10 (ha x List.mem_cons_self)) (flat_ne10 (hb y List.mem_cons_self)) (flat_head a) (flat_head b) e
    rw [TL.ext_tl h1, flat_inj (fun z hz => ha z (List.mem_cons_of_mem _ hz)) (fun z hz => hb z (List.mem_cons_of_mem _ hz)) h2]
theorem tx_inj {a b : Row} (ha : ∀ z ∈ a, Nm z) (hb : ∀ z ∈ b, Nm z) (e : tx 10 a = tx 10 b) : a = b := by
  unfold tx at e
  injection e with _ e
  exact flat_inj ha hb e
/-- from one written form to the other -/
def ph (c : Nat) : Nat := if c = 10 then 32 else c
def Al (l : List Nat) : Prop := ∀ c ∈ l, c = 10 ∨ 48 ≤ c
theorem ph_lt {c d : Nat} (hc : c = 10 ∨ 48 ≤ c) (hd : d = 10 ∨ 48 ≤ d) : (ph c < ph d ↔ c < d) ∧ (ph c = ph d ↔ c = d) := by
  unfold ph
  split <;> split <;> omega
theorem ph_list : ∀ {l m : List Nat}, Al l → Al m → (l.map ph < m.map ph ↔ l < m)
  | [], [], _, _ => by simp
  | [], d :: m, _, _ => by simp
  | c :: l, [], _, _ => by simp
  | c :: l, d :: m, hl, hm => by
    obtain ⟨p1, p2⟩ := ph_lt (hl c List.mem_cons_self) (hm d List.mem_cons_self)
    rw [List.map_cons, List.map_cons, List.cons_lt_cons_iff, List.cons_lt_cons_iff, p1, p2, ph_list (fun z hz => hl z (List.mem_cons_of_mem _ hz)) (fun z hz => hm z (List.mem_cons_of_mem _ hz))]
theorem tx_al {a : Row} (ha : ∀ z ∈ a, Nm z) : Al (tx 10 a) := fun c hc => by
  unfold tx at hc
  rcases List.mem_cons.mp hc with e | e
  · omega
  · obtain ⟨z, hz, h⟩ := List.mem_flatMap.mp e
    rcases List.mem_cons.mp h with f | f
    · exact .inl f
    · have := (ha z hz).1 c f
      omega
theorem tx_ph {a : Row} (ha : ∀ z ∈ a, Nm z) : (tx 10 a).map ph = tx 32 a := by
  unfold tx
  rw [List.map_cons, List.map_flatMap]
  have e : ph (48 + a.length) = 48 + a.length := by unfold ph; rw [if_neg (by omega)]
  rw [e]
  congr 1
  induction a with
  | nil => rfl
  | cons x a ih =>
    rw [List.flatMap_cons, List.flatMap_cons, ih (fun z hz => ha z (List.mem_cons_of_mem _ hz)) (by unfold ph; rw [if_neg (by omega)])]
    congr 1
    rw [List.map_cons]
    congr 1
    have : x.cps.toList.map ph = x.cps.toList.map id := List.map_congr_left fun c hc => by
      have := (ha x List.mem_cons_self).1 c hc
      unfold ph
      rw [if_neg (by omega)]
      rfl
    rw [this, List.map_id]
theorem rl_iff {a b : Row} (ha : ∀ z ∈ a, Nm z) (hb : ∀ z ∈ b, Nm z) : tx 32 a < tx 32 b ↔ rl a b := by
  rw [← tx_ph ha, ← tx_ph hb, ph_list (tx_al ha) (tx_al hb)]
  exact Iff.rfl
/-! ### rows in the heap -/
/-- the list p holds the texts of r -/
def IsRow (H : Hp) (p : Addr) (r : Row) : Prop := H p = some (.lst (r.map V.str))
theorem IsRow.le {H H' : Hp} {p : Addr} {r : Row} (h : IsRow H p r) (l : Le H H') : IsRow H' p r := l _ _ h
abbrev PR := List (Addr × Row)
def Prs (H : Hp) (ps : PR) : Prop := ∀ x ∈ ps, IsRow H x.1 x.2
theorem Prs.le {H H' : Hp} {ps : PR} (h : Prs H ps) (l : Le H H') : Prs H' ps := fun x hx => (h x hx).le l
def refs (ps : PR) : List V := ps.map fun x => V.ref x.1
def rows (ps : PR) : List Row := ps.map (·.2)
theorem refs_len (ps : PR) : (refs ps).length = ps.length := List.length_map _
theorem rows_len (ps : PR) : (rows ps).length = ps.length := List.length_map _
theorem eqV_str (a b : Str) : eqV (.str a) (.str b) = decide (a = b) := by
  by_cases h : a = b
  · subst h; rw [decide_eq_true rfl]; first | simp [eqV] | rfl
  · rw [decide_eq_false h]; first | (simp [eqV, h]) | rfl
theorem inV_str (z : Str) (r : Row) : inV (.str z) (r.map V.str) = decide (z ∈ r) := by
  unfold inV
  rw [List.any_map]
  rw [Bool.eq_iff_iff, List.any_eq_true, decide_eq_true_iff]
  constructor
  · rintro ⟨y, hy, h⟩
    have h : eqV (.str y) (.str z) = true := h
    rw [eqV_str] at h
    rw [← of_decide_eq_true h]; exact hy
  · intro h
    exact ⟨z, h, by show eqV (.str z) (.str z) = true; rw [eqV_str]; exact decide_eq_true rfl⟩
theorem flat_row (r : Row) : (r.map V.str).all flatV = true := by
  rw [List.all_map, List.all_eq_true]
  intro x _
  rfl
/-- the row at a value, read off the heap -/
def rowH (H : Hp) : V → Row
  | .ref p => match H p with
    | some (.lst xs) => xs.filterMap fun v => match v with | .str z => some z | _ => none
    | _ => []
  | _ => []
theorem rowH_of {H : Hp} {p : Addr} {r : Row} (h : IsRow H p r) : rowH H (.ref p) = r := by
  unfold rowH
  have h : H p = some (.lst (r.map V.str)) := h
  simp only [h]
  rw [List.filterMap_map]
  induction r with
  | nil => rfl
  | cons x r ih => rw [List.filterMap_cons]; show x :: _ = _; congr 1; exact List.filterMap_some
theorem rows_of {H : Hp} {ps : PR} (h : Prs H ps) {v : V} (hv : v ∈ refs ps) : ∃ x ∈ ps, v = .ref x.1 ∧ rowH H v = x.2 := by
  obtain ⟨x, hx, rfl⟩ := List.mem_map.mp hv
  exact ⟨x, hx, rfl, rowH_of (h x hx)⟩
theorem rows_eq {H : Hp} {ps : PR} (h : Prs H ps) : (refs ps).map (rowH H) = rows ps := by
  unfold refs rows
  rw [List.map_map]
  exact List.map_congr_left fun x hx => rowH_of (h x hx)
/-- values that are all rows, as pairs -/
def prOf (H : Hp) (vs : List V) : PR := vs.filterMap fun v => match v with | .ref p => some (p, rowH H v) | _ => none
theorem le_unlock {H H' : Hp} {d : Addr} {u : HO} {od : Obj} (h : H d = some u) (l : Le (upd H d (.frz od u)) H') : Le H (upd H' d u) := fun a o e => by
  by_cases c : a = d
  · subst c
    rw [h] at e
    rw [upd_self]
    exact e
  · rw [upd_ne c]
    exact l a o (by rw [upd_ne c]; exact e)
theorem gives_keys {kvs : List (Key × V)} : Gives (fun i H x H' => H' = H ∧ ∃ k v, kvs[i]? = some (k, v) ∧ x = kV k) (kvs.map fun e => kV e.1) := fun i H x H' h => ⟨h.1, by
  obtain ⟨_, k, v, hk, rfl⟩ := h
  rw [List.getElem?_map, hk]
  rfl⟩
/-- a comprehension whose turns give rows, new ones or ones that stood -/
theorem lc_rows {J : It} {G : Hp → Prop} {Y : Nat → Hp → V → Hp → Prop} {XS : List V} {n : Nat} (w : Walk J n G Y) (hY : Gives Y XS) {g : TG} {tt : TT} {te : TE} {vs : List Nat} {σ : L2.St} {H1 : Hp} {D : Addr} {Qd : Hp → Prop} (hD : H1 D = none) (hn : XS.length ≤ 16777216)
    (hG : ∀ H, Le H1 H → G H) (Rel : V → Row → Prop)
    (hs : ∀ x H, x ∈ XS → Le H1 H → (∃ acc, H D = some (.lst acc)) → ∀ N : V → Hp → Prop, (∀ p r H2, Le H H2 → p ≠ D → IsRow H2 p r → Rel x r → N (.ref p) H2) → g x (wipe σ vs) H fun σ2 H2 => wipe σ2 vs = wipe σ vs ∧ tt σ2 H2 fun b H3 => b = true ∧ te σ2 H3 fun y H4 => N y H4)
    (htt : ∀ σ2 H2 (M M' : Bool → Hp → Prop), (∀ b H, M b H → M' b H) → tt σ2 H2 M → tt σ2 H2 M')
    (hg : ∀ x σ H (M M' : L2.St → Hp → Prop), (∀ s H, M s H → M' s H) → g x σ H M → g x σ H M')
    (hd : ∀ H (qs : PR), Le H1 H → qs.length = XS.length → Prs H qs → (∀ q ∈ qs, q.1 ≠ D) → (∀ (i : Nat) x q, XS[i]? = some x → qs[i]? = some q → Rel x q.2) → H D = some (.lst (refs qs)) → Qd H) (en : n = XS.length := by first | rfl | simp) :
    ∃ W : Nat → Nat → Hp → Prop, (∃ m, W 0 m (upd H1 D (.lst []))) ∧ ∀ i m H, W i m H →
      (J.stop i H ∧ Qd H) ∨ (J.go i H ∧ ∃ Nx : Hp → Prop, (∀ H', Nx H' → ∃ m', m' < m ∧ W (i + 1) m' H') ∧ ∀ x H', J.yld i H x H' → g x (wipe σ vs) H' fun σ2 H2 => wipe σ2 vs = wipe σ vs ∧ tt σ2 H2 fun b H3 =>
        if b = true then te σ2 H3 fun y H4 => ∃ acc, H4 D = some (.lst acc) ∧ acc.length < sizeLine ∧ Nx (upd H4 D (.lst (acc ++ [y]))) else Nx H3) := by
  subst en
  refine lc_walk w hD (le_szl _ hn) hG (fun i H x H' h => by rw [(hY i H x H' h).1]; exact .refl) (fun i r H => ∃ p rw, r = some (V.ref p) ∧ p ≠ D ∧ IsRow H p rw ∧ ∀ x, XS[i]? = some x → Rel x rw) ?_ ?_ ?_
  · rintro i r H H' l hD2 ⟨p, rw, e, ne, h, hr⟩
    exact ⟨p, rw, e, ne, l _ _ ne h, hr⟩
  · intro i x H H' hi le acc y N hN
    obtain ⟨rfl, hx⟩ := hY i H x H' y
    refine hg _ _ _ _ _ ?_ (hs x H' (List.mem_of_getElem? hx) le acc (fun y H4 => N (some y) H4) fun p r H2 l ne hr rel => hN _ H2 l ⟨p, r, rfl, ne, hr, fun x' hx' => by rw [hx] at hx'; cases hx'; exact rel⟩)
    rintro s H2 ⟨e1, e2⟩
    refine ⟨e1, htt _ _ _ _ ?_ e2⟩
    rintro b H3 ⟨rfl, h⟩
    exact h
  · intro H rs le hl hr e
    have key : ∀ (rs : List (Option V)) (k : Nat), (∀ i r, rs[i]? = some r → ∃ p rw, r = some (V.ref p) ∧ p ≠ D ∧ IsRow H p rw ∧ ∀ x, XS[k + i]? = some x → Rel x rw) → ∃ qs : PR, rs.filterMap id = refs qs ∧ qs.length = rs.length ∧ Prs H qs ∧ (∀ q ∈ qs, q.1 ≠ D) ∧ ∀ (i : Nat) x q, XS[k + i]? = some x → qs[i]? = some q → Rel x q.2 := by
      intro rs
      induction rs with
      | nil => exact fun k _ => ⟨[], rfl, rfl, fun x hx => (by cases hx), fun x hx => (by cases hx), fun i x q _ hq => by simp at hq⟩
      | cons r rs ih =>
        intro k h
        obtain ⟨p, rw, rfl, ne, hp, rel⟩ := h 0 r rfl
        obtain ⟨qs, e1, e2, e3, e4, e5⟩ := ih (k + 1) fun i r hir => by
          obtain ⟨p, rw, h1, h2, h3, h4⟩ := h (i + 1) r hir
          exact ⟨p, rw, h1, h2, h3, fun x hx => h4 x (by rw [← hx]; congr 1; omega)⟩
        refine ⟨(p, rw) :: qs, by rw [List.filterMap_cons]; simp [e1, refs], by simp [e2], fun x hx => ?_, fun x hx => ?_, fun i x q hx hq => ?_⟩
        · rcases List.mem_cons.mp hx with c | c
          · rw [c]; exact hp
          · exact e3 x c
        · rcases List.mem_cons.mp hx with c | c
          · rw [c]; exact ne
          · exact e4 x c
        · cases i with
          | zero => cases hq; exact rel x hx
          | succ i => exact e5 i x q (by rw [← hx]; congr 1; omega) hq
    obtain ⟨qs, e1, e2, e3, e4, e5⟩ := key rs 0 fun i r hir => by
      obtain ⟨p, rw, h1, h2, h3, h4⟩ := hr i r hir
      exact ⟨p, rw, h1, h2, h3, fun x hx => h4 x (by rw [Nat.zero_add] at hx; exact hx)⟩
    refine hd H qs le (by rw [e2, hl]) e3 e4 (fun i x q hx hq => e5 i x q (by rw [Nat.zero_add]; exact hx) hq) ?_
    rw [e, e1]
end Od
end
section
set_option Elab.async false
set_option linter.all false
set_option autoImplicit false
/-! the law's names: unlike ones -/
namespace Nam
def base (front : Nat) : List Nat := (List.range 23).map fun k => 97 + (front + 5 * k) % 23
theorem base_len (f : Nat) : (base f).length = 23 := by simp [base]
theorem base_all : ∀ f, f < 23 → (base f).Nodup ∧ ∀ c ∈ base f, 97 ≤ c ∧ c ≤ 119 := by
  have : ∀ f : Fin 23, (base f.val).Nodup ∧ ∀ c ∈ base f.val, 97 ≤ c ∧ c ≤ 119 := by decide +kernel
  exact fun f h => this ⟨f, h⟩
def way0 (B : List Nat) : List (List Nat) := B.map fun c => [c]
def way1 (st B : List Nat) : List (List Nat) := B.flatMap fun c => [st ++ [c], st ++ [c] ++ [120]]
def heads (B : List Nat) : List (List Nat) := B.zipIdx.map fun p => p.1 :: List.replicate (p.2 % 3) 119
def way2 (st B : List Nat) : List (List Nat) := (heads B ++ B.map fun c => 122 :: 122 :: [c]).map fun l => st ++ l
theorem nd0 {B : List Nat} (h : B.Nodup) : (way0 B).Nodup := by
  unfold way0
  rw [List.nodup_iff_pairwise_ne, List.pairwise_map]
  exact (List.nodup_iff_pairwise_ne.mp h).imp fun ne e => ne (by injection e)
theorem nd1 {st B : List Nat} (h : B.Nodup) : (way1 st B).Nodup := by
  unfold way1
  rw [List.nodup_iff_pairwise_ne, List.pairwise_flatMap]
  refine ⟨fun c _ => ?_, (List.nodup_iff_pairwise_ne.mp h).imp fun {c d} ne x hx y hy e => ?_⟩
  · simp
  · simp only [List.mem_cons, List.not_mem_nil, or_false] at hx hy
    rcases hx with rfl | rfl <;> rcases hy with rfl | rfl
    · have := List.append_cancel_left e
      exact ne (by injection this)
    · have := congrArg List.length e
      simp at this
    · have := congrArg List.length e
      simp at this
    · rw [List.append_assoc, List.append_assoc] at e
      have := List.append_cancel_left e
      exact ne (by injection this)
theorem nd_heads : ∀ (B : List Nat), B.Nodup → ∀ n, (B.zipIdx n |>.map fun p => p.1 :: List.replicate (p.2 % 3) 119).Nodup
  | [], _, _ => List.nodup_nil
  | c :: B, h, n => by
    have h' := List.nodup_cons.mp h
    rw [List.zipIdx_cons, List.map_cons, List.nodup_cons]
    refine ⟨fun hm => ?_, nd_heads B h'.2 (n + 1)⟩
    obtain ⟨p, hp, e⟩ := List.mem_map.mp hm
    have e1 : p.1 = c := by injection e
    have := List.mem_zipIdx hp
    exact h'.1 (by rw [← e1, this.2.2]; exact List.getElem_mem _)
theorem nd2 {st B : List Nat} (h : B.Nodup) (hB : ∀ c ∈ B, 97 ≤ c ∧ c ≤ 119) : (way2 st B).Nodup := by
  unfold way2
  rw [List.nodup_iff_pairwise_ne, List.pairwise_map]
  refine List.Pairwise.imp (R := fun a b => a ≠ b) (fun {a b} ne e => ne (List.append_cancel_left e)) (List.nodup_iff_pairwise_ne.mp ?_)
  rw [List.nodup_append]
  refine ⟨nd_heads B h 0, ?_, ?_⟩
  · rw [List.nodup_iff_pairwise_ne, List.pairwise_map]
    exact (List.nodup_iff_pairwise_ne.mp h).imp fun ne e => ne (by injection e with _ e; injection e with _ e; injection e)
  · intro a ha b hb e
    obtain ⟨p, hp, rfl⟩ := List.mem_map.mp ha
    obtain ⟨c, hc, rfl⟩ := List.mem_map.mp hb
    have e1 : p.1 = 122 := by injection e
    have := List.mem_zipIdx hp
    have h2 : p.1 ∈ B := by rw [this.2.2]; exact List.getElem_mem _
    have := (hB _ h2).2
    omega
theorem len1 (st B : List Nat) : (way1 st B).length = 2 * B.length := by
  unfold way1
  induction B with
  | nil => rfl
  | cons c B ih => rw [List.flatMap_cons, List.length_append, ih, List.length_cons]; simp; omega
theorem len2 (st B : List Nat) : (way2 st B).length = 2 * B.length := by
  unfold way2 heads
  simp
  omega
/-- letters and lengths -/
def Ok (l : List Nat) : Prop := (∀ c ∈ l, 97 ≤ c ∧ c ≤ 122) ∧ 1 ≤ l.length ∧ l.length ≤ 10
theorem ok0 {B : List Nat} (hB : ∀ c ∈ B, 97 ≤ c ∧ c ≤ 119) : ∀ l ∈ way0 B, Ok l := fun l hl => by
  obtain ⟨c, hc, rfl⟩ := List.mem_map.mp hl
  refine ⟨fun d hd => ?_, by simp, by simp⟩
  rw [List.mem_singleton.mp hd]
  have := hB c hc
  omega
theorem ok1 {st B : List Nat} (hs : ∀ c ∈ st, 97 ≤ c ∧ c ≤ 119) (hl : st.length ≤ 7) (hB : ∀ c ∈ B, 97 ≤ c ∧ c ≤ 119) : ∀ l ∈ way1 st B, Ok l := fun l hm => by
  obtain ⟨c, hc, h⟩ := List.mem_flatMap.mp hm
  have hc := hB c hc
  simp only [List.mem_cons, List.not_mem_nil, or_false] at h
  rcases h with rfl | rfl
  · refine ⟨fun d hd => ?_, by simp, by simp; omega⟩
    simp only [List.mem_append, List.mem_singleton] at hd
    rcases hd with h | h
    · have := hs d h; omega
    · omega
  · refine ⟨fun d hd => ?_, by simp, by simp; omega⟩
    simp only [List.mem_append, List.mem_singleton] at hd
    rcases hd with (h | h) | h
    · have := hs d h; omega
    · omega
    · omega
theorem ok2 {st B : List Nat} (hs : ∀ c ∈ st, 97 ≤ c ∧ c ≤ 119) (hl : st.length ≤ 7) (hB : ∀ c ∈ B, 97 ≤ c ∧ c ≤ 119) : ∀ l ∈ way2 st B, Ok l := fun l hm => by
  obtain ⟨m, hm2, rfl⟩ := List.mem_map.mp hm
  have key : (∀ c ∈ m, 97 ≤ c ∧ c ≤ 122) ∧ 1 ≤ m.length ∧ m.length ≤ 3 := by
    rcases List.mem_append.mp hm2 with h | h
    · obtain ⟨p, hp, rfl⟩ := List.mem_map.mp h
      have h1 := List.mem_zipIdx hp
      have h2 : p.1 ∈ B := by rw [h1.2.2]; exact List.getElem_mem _
      have h3 := hB _ h2
      refine ⟨fun c hc => ?_, by simp, by simp; omega⟩
      rcases List.mem_cons.mp hc with e | e
      · omega
      · have := List.eq_of_mem_replicate e
        omega
    · obtain ⟨c, hc, rfl⟩ := List.mem_map.mp h
      have h3 := hB c hc
      refine ⟨fun d hd => ?_, by simp, by simp⟩
      simp only [List.mem_cons, List.not_mem_nil, or_false] at hd
      omega
  refine ⟨fun c hc => ?_, by rw [List.length_append]; omega, by rw [List.length_append]; omega⟩
  rcases List.mem_append.mp hc with h | h
  · have := hs c h; omega
  · exact key.1 c h
/-- what is left when few are barred -/
theorem left_len {α : Type} [DecidableEq α] : ∀ {L : List α} {bar : List α}, L.Nodup → L.length ≤ (L.filter fun x => !decide (x ∈ bar)).length + bar.length
  | [], _, _ => Nat.zero_le _
  | x :: L, bar, h => by
    have h' := List.nodup_cons.mp h
    by_cases c : x ∈ bar
    · have ih := left_len (L := L) (bar := bar.erase x) h'.2
      have e : (L.filter fun y => !decide (y ∈ bar.erase x)) = L.filter fun y => !decide (y ∈ bar) := List.filter_congr fun y hy => by
        have ne : y ≠ x := fun e => h'.1 (by rw [← e]; exact hy)
        have q := @List.mem_erase_of_ne α _ _ y x bar ne
        simp only [q]
      rw [e, List.length_erase_of_mem c] at ih
      have := List.length_pos_of_mem c
      rw [List.filter_cons, if_neg (by simp [c]), List.length_cons]
      omega
    · have ih := left_len (L := L) (bar := bar) h'.2
      rw [List.filter_cons, if_pos (by simp [c]), List.length_cons, List.length_cons]
      omega
end Nam
end
section
set_option Elab.async false
set_option linter.all false
set_option maxRecDepth 100000
set_option maxHeartbeats 2000000
set_option autoImplicit false
/-! the law's own picks, orders, names -/
namespace Od
open PySem PySem.Spec PyProof.Rows L2 C8
abbrev s__law_shuffled : Stmt := top 21
abbrev N__law_shuffled : List Str := ["_law_pen_here", "_law_items", "_law_left", "_law_found"]
abbrev P__law_shuffled : List Str := ["_law_pen_here", "_law_items"]
theorem sc__law_shuffled : FnScope N__law_shuffled P__law_shuffled (C8.fnScope s__law_shuffled) := fnScope_by (by decide +kernel)
abbrev s__law_barred : Stmt := top 22
abbrev N__law_barred : List Str := []
abbrev P__law_barred : List Str := []
theorem sc__law_barred : FnScope N__law_barred P__law_barred (C8.fnScope s__law_barred) := fnScope_by (by decide +kernel)
abbrev s__law_names : Stmt := top 23
abbrev N__law_names : List Str := ["_law_pen_here", "_law_many", "_law_signs", "_law_stem", "_law_way", "_law_front", "_law_k", "_law_found", "_law_short", "_law_one", "_law_tails", "_law_at"]
abbrev P__law_names : List Str := ["_law_pen_here", "_law_many"]
theorem sc__law_names : FnScope N__law_names P__law_names (C8.fnScope s__law_names) := fnScope_by (by decide +kernel)
theorem seqIx {r : Int} {n : Nat} (h0 : 0 ≤ r) (h1 : r < n) : seqIndex? r n = some r.toNat := by
  unfold seqIndex?
  simp only [if_neg (show ¬ r < 0 by omega)]
  rw [if_pos]
  simp [h0, h1]
theorem erase_perm {α : Type} : ∀ (xs : List α) (i : Nat) (h : i < xs.length), xs.Perm (xs[i] :: xs.eraseIdx i)
  | [], _, h => absurd h (Nat.not_lt_zero _)
  | x :: xs, 0, _ => List.Perm.refl _
  | x :: xs, i + 1, h => ((erase_perm xs i (Nat.lt_of_succ_lt_succ h)).cons x).trans (List.Perm.swap _ _ _)
section
variable {P : Program} {w : World} {K : PySem.W.Frag} {mg : Str → Option Value} {base : Heap}
def sp_shuffled : Sp := fun vs H Q _ => ∃ (d dl a : Addr) (n : Int) (xs : List V), vs = [.ref d, .ref a] ∧ IsPen H d dl n ∧ n ≤ 900000000 ∧ SqL K H a xs ∧ xs.length ≤ 100000 ∧
  ∀ q ys H', LeX d H H' → IsPen H' d dl (n + xs.length) → H q = none → H' q = some (.lst ys) → ys.Perm xs → Q (.ref q) H'
theorem c_shuffled (T : Txt K mg) (F : DefOf K mg "_law_shuffled" s__law_shuffled P__law_shuffled) (C__law_draw : Cal P w K mg base 1 "_law_draw" sp_draw []) : Cal P w K mg base 2 "_law_shuffled" (sp_shuffled (K := K)) [] := by
  obtain ⟨f, fd, F, B⟩ := F
  refine cal0 F B .nil sc__law_shuffled (fun vs H Q E h => by obtain ⟨_, _, _, _, _, rfl, _⟩ := h; rfl) (fun cdv A outer s H vs Q E hr h => ?_)
  obtain ⟨d, dl, a, n, xs, rfl, pn, n1, ha, hl, qq⟩ := h
  have nd := sc__law_shuffled.nd
  refine ⟨_, (pss_cons (ps_par (i := 2) (j := 3) (by rfl) nd rfl rfl (by decide) rfl rfl (pa_cons (pe_callTy call_list_of (by rfl) T.b_list (by decide +kernel) (pa_cons (pv 1) pa_nil)) (pa_cons (pe_lst pa_nil) pa_nil)) (by rfl))
      (C8.pss_cut (ps_while PassesOwn.never (pt_cmpR (op_neE hr.units) (pv 2) (pe_lst pa_nil) (nomark _)) (pss_one (ps_expr (pe_bm PySem.F.plainAttrs_list PySem.F.slot_list_append PySem.F.type_list_append mt_append (pv 3) (pa_cons (pe_bm PySem.F.plainAttrs_list PySem.F.slot_list_pop PySem.F.type_list_pop mt_popAt (pv 2) (pa_cons (pe_c C__law_draw hr (by decide) rfl (pa_cons (pv 0) (pa_cons (pe_callB call_len_seq (by rfl) T.b_len (by decide +kernel) (pa_cons (pv 2) pa_nil)) pa_nil))) pa_nil)) pa_nil)))))
      (pss_one (ps_ret (pv 3))))), ?_⟩
  refine ⟨_, rfl, a, xs, rfl, .inl ha, fun l nl => ?_⟩
  refine ⟨Nat.zero_le _, fun l2 nl2 => ?_⟩
  have le0 : Le H (upd (upd H l (.lst xs)) l2 (.lst [])) := (Le.new nl).trans (Le.new nl2)
  have e1 : upd (upd H l (.lst xs)) l2 (.lst []) l = some (.lst xs) := (Le.new nl2) _ _ upd_self
  have e2 : upd (upd H l (.lst xs)) l2 (.lst []) l2 = some (.lst []) := upd_self
  have hl2 : H l2 = none := (Le.new nl).none nl2
  have ne : l ≠ l2 := ne_of_new nl2 upd_self
  have nl1 : l ≠ d := ne_of_new' nl pn.dict
  have nl3 : l2 ≠ d := ne_of_new' hl2 pn.dict
  generalize upd (upd H l (.lst xs)) l2 (.lst []) = H0 at le0 e1 e2 ⊢
  refine ⟨_, _, rfl, ?_⟩
  refine ⟨fun σ' H' => ∃ ys, LeX d H H' ∧ IsPen H' d dl (n + xs.length) ∧ H' l2 = some (.lst ys) ∧ ys.Perm xs ∧ σ' = [some (.ref d), some (.ref a), some (.ref l), some (.ref l2)], ?_, ?_⟩
  rotate_left
  · rintro σ' H' ⟨ys, lx, p1, e, pm, rfl⟩
    exact ⟨_, rfl, qq l2 ys H' lx p1 hl2 e pm⟩
  refine ⟨fun m σ' H' => ∃ xs1 ys1 : List V, m = xs1.length ∧ LeX d H H' ∧ IsPen H' d dl (n + ys1.length) ∧ H' l = some (.lst xs1) ∧ H' l2 = some (.lst ys1) ∧ (xs1 ++ ys1).Perm xs ∧ σ' = [some (.ref d), some (.ref a), some (.ref l), some (.ref l2)], ⟨_, xs, [], rfl, le0.x, (pn.le le0).mono (by simp), e1, e2, by simp, rfl⟩, ?_⟩
  rintro m σ' H1 ⟨xs1, ys1, rfl, lx, p1, h1, h2, pm, rfl⟩
  have hlen := pm.length_eq
  rw [List.length_append] at hlen
  refine ⟨_, rfl, Nat.zero_le _, fun q1 nq1 => ?_⟩
  have lq : Le H1 (upd H1 q1 (.lst [])) := Le.new nq1
  have eq1 : upd H1 q1 (.lst []) q1 = some (.lst []) := upd_self
  generalize upd H1 q1 (.lst []) = H2 at lq eq1 ⊢
  refine ⟨l, q1, _, _, rfl, rfl, .of (lq _ _ h1), .of eq1, .inr rfl, _, rfl, ?_⟩
  refine ite2 (fun c => ?_) (fun c => ?_)
  · have hne : xs1 ≠ [] := fun e => by rw [e] at c; cases c
    have hpos := List.length_pos_iff.mpr hne
    refine ⟨fun σ2 H3 => ∃ xs2 ys2 : List V, xs2.length < xs1.length ∧ LeX d H H3 ∧ IsPen H3 d dl (n + ys2.length) ∧ H3 l = some (.lst xs2) ∧ H3 l2 = some (.lst ys2) ∧ (xs2 ++ ys2).Perm xs ∧ σ2 = [some (.ref d), some (.ref a), some (.ref l), some (.ref l2)], fun σ2 H3 ⟨xs2, ys2, g1, g2, g3, g4, g5, g6, g7⟩ => ⟨_, g1, xs2, ys2, rfl, g2, g3, g4, g5, g6, g7⟩, ?_⟩
    refine ⟨_, rfl, .inl ⟨rfl, _, SqL.of (lq _ _ h2)⟩, _, rfl, .inl ⟨rfl, _, SqL.of (lq _ _ h1)⟩, _, rfl, _, rfl, l, xs1, rfl, .inl (.of (lq _ _ h1)), ?_⟩
    refine ⟨d, dl, _, _, rfl, p1.le lq, by omega, by omega, lg9 _ (by omega) (by omega), fun r H3 l3 p3 r0 r1 => ?_⟩
    have h13 := l3 _ _ nl1 (lq _ _ h1)
    have h23 := l3 _ _ nl3 (lq _ _ h2)
    have hr : r.toNat < xs1.length := by omega
    refine ⟨l, xs1, r, r.toNat, xs1[r.toNat], rfl, rfl, h13, by omega, by omega, seqIx r0 r1, List.getElem?_eq_getElem hr, ?_⟩
    refine ⟨l2, ys1, _, rfl, rfl, by rw [upd_ne ne.symm]; exact h23, le_szl' (by omega), ?_⟩
    refine ⟨xs1.eraseIdx r.toNat, ys1 ++ [xs1[r.toNat]], by rw [List.length_eraseIdx]; simp [hr]; omega, ?_, ?_, by rw [upd_ne ne, upd_self], upd_self, ?_, rfl⟩
    · intro b o hb h
      have nb : b ≠ l := fun e => by rw [e] at h; rw [h] at nl; cases nl
      have nb2 : b ≠ l2 := fun e => by rw [e] at h; rw [h] at hl2; cases hl2
      rw [upd_ne nb2, upd_ne nb]
      exact l3 _ _ hb (lq _ _ (lx b o hb h))
    · obtain ⟨cells, t, x, g1, g2, g3⟩ := p3
      have k1 : d ≠ l := nl1.symm
      have k2 : d ≠ l2 := nl3.symm
      have k3 : dl ≠ l := fun e => by
        obtain ⟨_, _, _, _, z, _⟩ := pn
        rw [e, nl] at z; cases z
      have k4 : dl ≠ l2 := fun e => by
        obtain ⟨_, _, _, _, z, _⟩ := pn
        rw [e, hl2] at z; cases z
      refine ⟨cells, t, x, by rw [upd_ne k2, upd_ne k1]; exact g1, by rw [upd_ne k4, upd_ne k3]; exact g2, g3.1, g3.2.1, ?_⟩
      rw [List.length_append]
      have := g3.2.2
      simp
      omega
    · refine List.Perm.trans ?_ pm
      have e := erase_perm xs1 r.toNat hr
      refine List.Perm.trans ?_ (e.append_right ys1).symm
      rw [← List.append_assoc]
      exact List.perm_append_singleton _ _
  · have he : xs1 = [] := by
      cases h : xs1 with
      | nil => rfl
      | cons u v => rw [h] at c; exact absurd rfl c
    subst he
    rw [List.nil_append] at pm
    have e3 := pm.length_eq
    exact ⟨ys1, fun b o hb h => lq _ _ (lx b o hb h), (p1.le lq).mono (by omega), lq _ _ h2, pm, rfl⟩
/-! ### names -/
def barL : Row := ["chain", "from", "to", "by", "and", "or", "always", "never"]
def sp_barred : Sp := fun vs H Q _ => vs = [] ∧ ∀ p H', Le H H' → H p = none → H' p = some (.lst (barL.map V.str)) → Q (.ref p) H'
theorem c_barred (T : Txt K mg) (F : DefOf K mg "_law_barred" s__law_barred P__law_barred) : Cal P w K mg base 1 "_law_barred" sp_barred [] := by
  obtain ⟨f, fd, F, B⟩ := F
  refine cal0 F B .nil sc__law_barred (fun vs H Q E h => by obtain ⟨rfl, _⟩ := h; rfl) (fun cdv A outer s H vs Q E hr h => ?_)
  obtain ⟨rfl, q⟩ := h
  have nd := sc__law_barred.nd
  refine ⟨_, (pss_one (ps_ret (pe_lst (pa_cons pe_str (pa_cons pe_str (pa_cons pe_str (pa_cons pe_str (pa_cons pe_str (pa_cons pe_str (pa_cons pe_str (pa_cons pe_str pa_nil))))))))))), ?_⟩
  exact ⟨le_szl 8 (by decide), fun p np => q p _ (Le.new np) np upd_self⟩
def sgL : Str := "abcdefghijklmnopqrstuvw"
theorem sgL_len : sgL.length = 23 := by decide +kernel
theorem sgL_mem : ∀ c ∈ sgL.cps.toList, 97 ≤ c ∧ c ≤ 119 := by decide +kernel
theorem sgL_at {r : Int} (h0 : 0 ≤ r) (h1 : r < 23) : atI sgL.cps.toList r = some (97 + r.toNat) := by
  have : ∀ j : Fin 23, sgL.cps.toList[j.val]? = some (97 + j.val) := by decide +kernel
  have h := atI_nat (xs := sgL.cps.toList) (j := r.toNat) (this ⟨r.toNat, by omega⟩)
  rwa [show ((r.toNat : Nat) : Int) = r by omega] at h
def nmV (l : List Nat) : V := .str (SX.S l)
theorem cat_S (a b : List Nat) : SX.S a ++ SX.S b = SX.S (a ++ b) := SX.S_cat a b
theorem perm_str {ys : List V} {r : Row} (h : ys.Perm (r.map V.str)) : ∃ r' : Row, r'.Perm r ∧ ys = r'.map V.str := by
  let g : V → Option Str := fun v => match v with | .str z => some z | _ => none
  have e1 : (r.map V.str).filterMap g = r := by rw [List.filterMap_map]; exact List.filterMap_some
  have hp := h.filterMap g
  rw [e1] at hp
  refine ⟨ys.filterMap g, hp, ?_⟩
  have hall : ∀ v ∈ ys, ∃ z, v = V.str z := fun v hv => by
    obtain ⟨z, _, rfl⟩ := List.mem_map.mp (h.mem_iff.mp hv)
    exact ⟨z, rfl⟩
  clear h hp e1
  induction ys with
  | nil => rfl
  | cons v ys ih =>
    obtain ⟨z, rfl⟩ := hall v List.mem_cons_self
    rw [List.filterMap_cons]
    show V.str z :: ys = V.str z :: List.map V.str (ys.filterMap g)
    rw [← ih fun v hv => hall v (List.mem_cons_of_mem _ hv)]
theorem cutV_to (xs : List V) (n : Nat) : cutV xs none (some (n : Int)) = xs.take n := by
  unfold cutV
  rw [HT.sIx_none, HT.sIx_nat, List.drop_zero, Nat.sub_zero]
  by_cases c : n ≤ xs.length
  · rw [Nat.min_eq_left c]
  · rw [Nat.min_eq_right (by omega), List.take_of_length_le (by omega), List.take_of_length_le (by omega)]
/-- what the names are like -/
def GoodNames (r : Row) : Prop := r.Nodup ∧ ∀ z ∈ r, Nm z ∧ z ∉ barL ∧ 1 ≤ z.length
theorem good_of {L : List (List Nat)} (nd : L.Nodup) (ok : ∀ l ∈ L, Nam.Ok l) : (L.map SX.S).Nodup ∧ ∀ z ∈ L.map SX.S, Nm z ∧ 1 ≤ z.length := by
  refine ⟨?_, fun z hz => ?_⟩
  · rw [List.nodup_iff_pairwise_ne, List.pairwise_map]
    exact (List.nodup_iff_pairwise_ne.mp nd).imp fun ne e => ne (SX.S_inj e)
  · obtain ⟨l, hl, rfl⟩ := List.mem_map.mp hz
    obtain ⟨h1, h2, h3⟩ := ok l hl
    exact ⟨⟨h1, by rw [SX.S_len]; omega⟩, by rw [SX.S_len]; exact h2⟩
def sp_names : Sp := fun vs H Q _ => ∃ (d dl : Addr) (n : Int) (many : Nat), vs = [.ref d, .int (many : Int)] ∧ IsPen H d dl n ∧ n ≤ 800000000 ∧ many ≤ 1000 ∧
  ∀ q (r : Row) H', LeX d H H' → IsPen H' d dl (n + 100) → H q = none → IsRow H' q r → GoodNames r → r.length ≤ many → (many ≤ 15 → r.length = many) → Q (.ref q) H'
theorem c_names (T : Txt K mg) (F : DefOf K mg "_law_names" s__law_names P__law_names) (C__law_draw : Cal P w K mg base 1 "_law_draw" sp_draw []) (C__law_pick : Cal P w K mg base 2 "_law_pick" sp_pick []) (C__law_barred : Cal P w K mg base 1 "_law_barred" sp_barred [])
    (C__law_shuffled : Cal P w K mg base 2 "_law_shuffled" (sp_shuffled (K := K)) []) : Cal P w K mg base 3 "_law_names" sp_names [] := by
  obtain ⟨f, fd, F, B⟩ := F
  refine cal0 F B .nil sc__law_names (fun vs H Q E h => by obtain ⟨_, _, _, _, rfl, _⟩ := h; rfl) (fun cdv A outer s H vs Q E hr h => ?_)
  obtain ⟨d, dl, n, many, rfl, pn, n1, m1, qq⟩ := h
  have nd := sc__law_names.nd
  refine ⟨_, (pss_cons (ps_asg (pe_tup (pa_cons pe_str (pa_cons pe_str pa_nil))) (pg_tup rfl (pgs_cons (pg_name (i := 2) nd rfl (Or.inr rfl)) (pgs_cons (pg_name (i := 3) nd rfl (Or.inr rfl)) pgs_nil))))
      (pss_cons (ps_asg (pe_tup (pa_cons (pe_c C__law_draw hr (by decide) rfl (pa_cons (pv 0) (pa_cons pe_int pa_nil))) (pa_cons (pe_c C__law_draw hr (by decide) rfl (pa_cons (pv 0) (pa_cons pe_int pa_nil))) pa_nil))) (pg_tup rfl (pgs_cons (pg_name (i := 4) nd rfl (Or.inl rfl)) (pgs_cons (pg_name (i := 5) nd rfl (Or.inr rfl)) pgs_nil))))
      (C8.pss_cut (ps_for PassesOwn.never rfl (pi_range1 (by rfl) T.b_range (pa_cons (pe_op op_mul (pe_c C__law_draw hr (by decide) rfl (pa_cons (pv 0) (pa_cons pe_int pa_nil))) (pe_callTy call_int1 (by rfl) T.b_int (by decide +kernel) (pa_cons (pe_cmpR op_gt (pv 4) pe_int (nomark _)) pa_nil))) pa_nil)) (pg_name (i := 6) nd rfl (Or.inl rfl)) (pss_one (ps_set (i := 3) nd rfl (Or.inr rfl) (pe_op op_add_str (pv 3) (pe_c C__law_pick hr (by decide) rfl (pa_cons (pv 0) (pa_cons (pv 2) pa_nil)))))))
      (pss_cons (ps_setLc (i := 7) (own := [("_law_k", 6)]) (g := gName 6) (by rfl) nd rfl rfl (sw_true rfl rfl rfl (by decide +kernel)) (pi_range1 (by rfl) T.b_range (pa_cons pe_int pa_nil)) (blkOk_by (own := [("_law_k", 6)]) (N := N__law_names) (sc := C8.fnScope s__law_names) (by decide +kernel)) (fun _ _ _ _ _ => pg_name (i := 6) nd rfl (Or.inl rfl)) (fun _ _ _ _ _ => pts_nil) (fun _ _ _ _ _ => (pe_ix ix_str (pv 2) (pe_op op_mod (pe_callTy call_int1 (by rfl) T.b_int (by decide +kernel) (pa_cons (pe_op op_add (pv 5) (pe_op op_mul pe_int (pv 6))) pa_nil)) pe_int) (fun _ _ => rfl))))
      (C8.pss_cut (ps_if (pt_cmpR op_eq (pv 4) pe_int (nomark _)) (pss_cons (ps_par (i := 8) (j := 7) (by rfl) nd rfl rfl (by decide) rfl rfl (pa_cons (pv 7) (pa_cons (pe_lst pa_nil) pa_nil)) (by rfl))
      (pss_one (ps_for PassesOwn.never rfl (pi_list (pv 8)) (pg_name (i := 9) nd rfl (Or.inl rfl)) (pss_one (ps_expr (pe_bm PySem.F.plainAttrs_list PySem.F.slot_list_extend PySem.F.type_list_extend mt_extend (pv 7) (pa_cons (pe_lst (pa_cons (pe_op op_add_str (pv 3) (pv 9)) (pa_cons (pe_op op_add_str (pe_op op_add_str (pv 3) (pv 9)) pe_str) pa_nil))) pa_nil))))))) pss_nil)
      (C8.pss_cut (ps_if (pt_cmpR op_eq (pv 4) pe_int (nomark _)) (pss_cons (ps_setLc (i := 10) (own := [("_law_one", 9)]) (g := gName 9) (by rfl) nd rfl rfl (sw_true rfl rfl rfl (by decide +kernel)) (pi_list (pv 7)) (blkOk_by (own := [("_law_one", 9)]) (N := N__law_names) (sc := C8.fnScope s__law_names) (by decide +kernel)) (fun _ _ _ _ _ => pg_name (i := 9) nd rfl (Or.inl rfl)) (fun _ _ _ _ _ => pts_nil) (fun _ _ _ _ _ => (pe_op op_add_str pe_str (pv 9))))
      (pss_one (ps_setLc (i := 7) (own := [("_law_one", 9)]) (g := gName 9) (by rfl) nd rfl rfl (sw_true rfl rfl rfl (by decide +kernel)) (pi_list (pe_op op_cat (pe_lc (own := [("_law_at", 11), ("_law_one", 9)]) (g := (gTup K 2 (gCons (gName 11) (gCons (gName 9) gNil)))) (by rfl) nd (pi_enum (by rfl) T.b_enumerate (pa_cons (pv 7) pa_nil)) (blkOk_by (own := [("_law_at", 11), ("_law_one", 9)]) (N := N__law_names) (sc := C8.fnScope s__law_names) (by decide +kernel)) (fun _ _ _ _ _ => (pg_tupK (K := K) rfl rfl (pgs_cons (pg_name (i := 11) nd rfl (Or.inl rfl) (Or.inr rfl)) (pgs_cons (pg_name (i := 9) nd rfl (Or.inl rfl) (Or.inr rfl)) pgs_nil)))) (fun _ _ _ _ _ => pts_nil) (fun _ _ _ _ _ => (pe_op op_add_str (pv 9) (pe_op op_mulS pe_str (pe_op op_mod (pe_callTy call_int1 (by rfl) T.b_int (by decide +kernel) (pa_cons (pv 11) pa_nil)) pe_int))))) (pv 10))) (blkOk_by (own := [("_law_one", 9)]) (N := N__law_names) (sc := C8.fnScope s__law_names) (by decide +kernel)) (fun _ _ _ _ _ => pg_name (i := 9) nd rfl (Or.inl rfl)) (fun _ _ _ _ _ => pts_nil) (fun _ _ _ _ _ => (pe_op op_add_str (pv 3) (pv 9)))))) pss_nil)
      (pss_cons (ps_set (i := 7) nd rfl (Or.inl rfl) (pe_slice sl_list (pe_lc (own := [("_law_one", 9)]) (g := gName 9) (by rfl) nd (pi_list (pv 7)) (blkOk_by (own := [("_law_one", 9)]) (N := N__law_names) (sc := C8.fnScope s__law_names) (by decide +kernel)) (fun _ _ _ _ _ => pg_name (i := 9) nd rfl (Or.inl rfl)) (fun _ _ _ _ _ => pts_one (pt_cmpR (opR_K (K := K) (r := fun K => rIn K true) rfl op_notIn_seq) (pv 9) (pe_c0 C__law_barred hr (by decide) rfl) (by rfl))) (fun _ _ _ _ _ => (pv 9))) po_none (po_some (pv 1))))
      (pss_one (ps_ret (pe_c C__law_shuffled hr (by decide) rfl (pa_cons (pv 0) (pa_cons (pv 7) pa_nil)))))))))))), ?_⟩
  -- signs, stem
  refine ⟨le_szl 2 (by decide), fun t nt => ?_⟩
  have l1 : Le H (upd H t (.tup [.str "abcdefghijklmnopqrstuvw", .str ""])) := Le.new nt
  refine ⟨t, _, rfl, .of upd_self, rfl, ?_⟩
  refine ⟨_, _, rfl, _, _, rfl, rfl, ?_⟩
  have p1 := pn.le l1
  generalize upd H t (.tup [.str "abcdefghijklmnopqrstuvw", .str ""]) = H1 at l1 p1 ⊢
  -- way, front
  refine ⟨_, rfl, d, dl, 3, n, rfl, p1, by omega, by decide, lg9 3 (by decide) (by decide), fun way H2 l2 p2 w0 w1 => ?_⟩
  refine ⟨_, rfl, d, dl, 23, _, rfl, p2, by omega, by decide, lg9 23 (by decide) (by decide), fun front H3 l3 p3 f0 f1 => ?_⟩
  refine ⟨le_szl 2 (by decide), fun t2 nt2 => ?_⟩
  refine ⟨t2, _, rfl, .of upd_self, rfl, ?_⟩
  refine ⟨_, _, rfl, _, _, rfl, rfl, ?_⟩
  have l4 : LeX d H (upd H3 t2 (.tup [.int way, .int front])) := ((l1.x.tr l2).tr l3).tr (Le.new nt2).x
  have p4 := p3.le (Le.new (o := .tup [.int way, .int front]) nt2)
  generalize upd H3 t2 (.tup [.int way, .int front]) = H4 at l4 p4 ⊢
  -- the stem
  refine ⟨fun σ' H' => ∃ (st : List Nat) (x6 : Option V), LeX d H H' ∧ IsPen H' d dl (n + 20) ∧ st.length ≤ 7 ∧ (∀ c ∈ st, 97 ≤ c ∧ c ≤ 119) ∧ σ' = [some (.ref d), some (.int many), some (.str sgL), some (nmV st), some (.int way), some (.int front), x6, none, none, none, none, none], ?_, ?_⟩
  · refine ⟨_, rfl, d, dl, 8, _, rfl, p4, by omega, by decide, lg9 8 (by decide) (by decide), fun r H5 l5 p5 r0 r1 => ?_⟩
    refine ⟨_, rfl, _, _, rfl, rfl, .inr ⟨decide ((0 : Int) < way), rfl, ?_⟩⟩
    refine ⟨_, _, rfl, rfl, .inl ⟨by omega, by omega⟩, ?_⟩
    have hm : 0 ≤ r * (if decide ((0 : Int) < way) = true then 1 else 0) ∧ r * (if decide ((0 : Int) < way) = true then 1 else 0) ≤ 7 := by split <;> omega
    refine ⟨_, rfl, by omega, by omega, ?_⟩
    refine for_it walk_range (fun i σ' H' => ∃ (st : List Nat) (x6 : Option V), LeX d H H' ∧ IsPen H' d dl (n + 3 + (i : Nat)) ∧ st.length ≤ i ∧ (∀ c ∈ st, 97 ≤ c ∧ c ≤ 119) ∧ σ' = [some (.ref d), some (.int many), some (.str sgL), some (nmV st), some (.int way), some (.int front), x6, none, none, none, none, none]) ?_ (fun _ _ _ _ _ => trivial) ?_ ?_
    · exact ⟨[], _, l4.tr l5, p5.mono (by simp; omega), Nat.le_refl _, fun c hc => (by cases hc), rfl⟩
    · rintro i x σ' Ha Hb hi ⟨st, x6, lx, pb, sl, sc, rfl⟩ ⟨rfl, rfl⟩
      refine ⟨_, rfl, _, rfl, _, rfl, d, dl, _, _, rfl, pb, by omega, .inl ⟨sgL, rfl, by rw [sgL_len]; decide, by rw [sgL_len]; decide, fun c H6 l6 p6 hc => ?_⟩⟩
      refine ⟨SX.S st, _, rfl, rfl, le_szl _ (by rw [SX.S_len]; show st.length + 1 ≤ _; omega), ?_⟩
      refine ⟨st ++ [c], some (.int (0 + (i : Nat))), lx.tr l6, p6.mono (by rw [Int.natCast_add]; simp; omega), by rw [List.length_append]; simp; omega, fun e he => ?_, ?_⟩
      · rcases List.mem_append.mp he with h | h
        · exact sc e h
        · rw [List.mem_singleton.mp h]; exact sgL_mem c hc
      · unfold nmV
        rw [← cat_S]
        rfl
    · rintro σ' H' ⟨st, x6, lx, pb, sl, sc, rfl⟩
      exact ⟨st, x6, lx, pb.mono (by omega), by omega, sc, rfl⟩
  rintro σ' H5 ⟨st, x6, l5, p5, sl, sc, rfl⟩
  -- the letters
  obtain ⟨fr, rfl⟩ : ∃ fr : Nat, front = (fr : Int) := ⟨front.toNat, by omega⟩
  have hfr : fr < 23 := by omega
  obtain ⟨bnd, ball⟩ := Nam.base_all fr hfr
  refine ⟨_, rfl, by decide, by decide, fun D nD => ?_⟩
  refine lc_pure walk_range nD (le_szl 23 (by decide)) (fun _ _ => trivial) yfn_le (fun i => some (nmV [97 + (fr + 5 * i) % 23])) ?_ ?_
  · rintro i x H6 H7 hi le ⟨rfl, rfl⟩ N hN
    refine ⟨rfl, ?_⟩
    have e : ((fr : Int) + 5 * (0 + (i : Nat))) % 23 = (((fr + 5 * i) % 23 : Nat) : Int) := by omega
    refine ⟨_, rfl, _, rfl, _, rfl, _, _, rfl, rfl, .inl ⟨by decide, by decide⟩, _, _, rfl, rfl, .inl ⟨_, rfl, _, _, rfl, rfl, (show (0 : Int) < 23 by decide), _, _, 97 + (fr + 5 * i) % 23, rfl, rfl, le_szl _ (show sgL.length ≤ _ by rw [sgL_len]; decide), ?_, ?_⟩⟩
    · rw [e, sgL_at (by omega) (by omega), Int.toNat_natCast]
    · exact hN _ .refl
  intro H6 l6 e6
  have e6 : H6 D = some (.lst ((Nam.way0 (Nam.base fr)).map nmV)) := by
    rw [e6]
    unfold Nam.way0 Nam.base
    rw [List.map_map, List.map_map, List.filterMap_eq_map']
    rfl
  have p6 := p5.le l6
  have l6 := l5.tr l6.x
  generalize hB : Nam.base fr = B at *
  have hBl : B.length = 23 := by rw [← hB]; exact Nam.base_len fr
  -- the first way
  refine ⟨fun σ' H' => ∃ (p : Addr) (x8 x9 : Option V), LeX d H H' ∧ IsPen H' d dl (n + 20) ∧ H' p = some (.lst ((if way = 1 then Nam.way1 st B else Nam.way0 B).map nmV)) ∧ σ' = [some (.ref d), some (.int many), some (.str sgL), some (nmV st), some (.int way), some (.int fr), x6, some (.ref p), x8, x9, none, none], ?_, ?_⟩
  · refine ⟨_, rfl, rfl, _, rfl, ?_⟩
    refine ite2 (fun c => ?_) (fun c => ?_)
    · have hw : way = 1 := by have := of_decide_eq_true c; injection this
      subst hw
      refine ⟨_, rfl, Nat.zero_le _, fun q nq => ⟨_, _, rfl, ?_⟩⟩
      have eq0 : upd H6 q (.lst []) q = some (.lst []) := upd_self
      have lq : Le H6 (upd H6 q (.lst [])) := Le.new nq
      have nqD : D ≠ q := ne_of_new nq e6
      have hq : H q = none := by
        cases h : H q with
        | none => rfl
        | some o =>
          have := l6 q o (ne_of_new' nq p6.dict) h
          rw [nq] at this; cases this
      refine ⟨_, rfl, D, rfl, ⟨_, .of (lq _ _ e6)⟩, ?_⟩
      refine for_it (walk_list (xs := (Nam.way0 B).map nmV)) (fun j σ' H' => ∃ x9, LeX q H6 H' ∧ H' q = some (.lst ((Nam.way1 st (B.take j)).map nmV)) ∧ σ' = [some (.ref d), some (.int many), some (.str sgL), some (nmV st), some (.int 1), some (.int fr), x6, some (.ref q), some (.ref D), x9, none, none]) ?_ ?_ ?_ ?_
      · exact ⟨_, fun b o c h => lq _ _ h, eq0, rfl⟩
      · rintro j σ' H' hj ⟨x9, lx, _⟩
        exact .of (lx _ _ nqD e6)
      · rintro j x σ' Ha Hb hj ⟨x9, lx, eb, rfl⟩ ⟨rfl, hx⟩
        rw [List.getElem?_map, show Nam.way0 B = B.map fun c => [c] from rfl, List.getElem?_map] at hx
        obtain ⟨l0, hl0, rfl⟩ := Option.map_eq_some_iff.mp hx
        obtain ⟨c, hc, rfl⟩ := Option.map_eq_some_iff.mp hl0
        have jlt : j < B.length := (List.getElem?_eq_some_iff.mp hc).1
        have s1 : (SX.S st).length = st.length := SX.S_len st
        have s2 : (SX.S [c]).length = 1 := SX.S_len [c]
        refine ⟨_, rfl, .inl ⟨rfl, _, SqL.of eb⟩, _, rfl, _, rfl, SX.S st, SX.S [c], rfl, rfl, le_szl _ (by omega), ?_⟩
        rw [cat_S]
        refine ⟨_, rfl, _, rfl, SX.S st, SX.S [c], rfl, rfl, le_szl _ (by omega), ?_⟩
        rw [cat_S]
        have s3 : (SX.S (st ++ [c])).length = st.length + 1 := by rw [SX.S_len]; simp
        refine ⟨_, _, rfl, rfl, le_szl _ (by rw [s3]; show st.length + 1 + 1 ≤ _; omega), ?_⟩
        rw [show SX.S (st ++ [c]) ++ ("x" : Str) = SX.S (st ++ [c] ++ [120]) from cat_S (st ++ [c]) [120]]
        refine ⟨le_szl 2 (by decide), fun l nl => ?_⟩
        have nql : q ≠ l := ne_of_new nl eb
        refine ⟨q, l, _, _, rfl, rfl, (Le.new nl) _ _ eb, upd_self, le_szl _ ?_, ?_⟩
        · rw [List.length_map, Nam.len1, List.length_take]
          show _ + 2 ≤ _
          omega
        · refine ⟨_, fun b o cb h => by rw [upd_ne cb]; exact (Le.new nl) _ _ (lx b o cb h), ?_, rfl⟩
          rw [upd_self, List.take_add_one, hc]
          unfold Nam.way1
          rw [List.flatMap_append, List.map_append]
          rfl
      · rintro σ' H' ⟨x9, lx, eb, rfl⟩
        rw [List.length_map] at eb
        have hl0 : (Nam.way0 B).length = B.length := by unfold Nam.way0; rw [List.length_map]
        rw [hl0, List.take_of_length_le (Nat.le_refl _)] at eb
        refine ⟨q, _, _, fun b o hb h => lx b o (fun e => by rw [e, hq] at h; cases h) (l6 b o hb h), p6.lx lx (ne_of_new' nq p6.dict).symm ?_, by rw [if_pos rfl]; exact eb, rfl⟩
        intro e
        obtain ⟨_, _, _, _, z, _⟩ := p6
        rw [e, nq] at z; cases z
    · have hw : ¬ way = 1 := fun e => c (by rw [e]; exact decide_eq_true rfl)
      exact ⟨D, _, _, l6, p6, by rw [if_neg hw]; exact e6, rfl⟩
  rintro σ' H7 ⟨p, x8, x9, l7, p7, e7, rfl⟩
  -- the second way
  refine ⟨fun σ' H' => ∃ (p : Addr) (L : List (List Nat)) (x8 x9 x10 x11 : Option V), LeX d H H' ∧ IsPen H' d dl (n + 20) ∧ H' p = some (.lst (L.map nmV)) ∧ L.Nodup ∧ (∀ l ∈ L, Nam.Ok l) ∧ 23 ≤ L.length ∧ L.length ≤ 46 ∧ σ' = [some (.ref d), some (.int many), some (.str sgL), some (nmV st), some (.int way), some (.int fr), x6, some (.ref p), x8, x9, x10, x11], ?_, ?_⟩
  · refine ⟨_, rfl, rfl, _, rfl, ?_⟩
    refine ite2 (fun c => ?_) (fun c => ?_)
    · have hw : way = 2 := by have := of_decide_eq_true c; injection this
      subst hw
      rw [if_neg (by decide)] at e7
      have hl0 : (Nam.way0 B).length = 23 := by unfold Nam.way0; rw [List.length_map]; exact hBl
      refine ⟨_, rfl, p, rfl, ⟨_, .of e7⟩, fun D1 nD1 => ?_⟩
      refine lc_fm (walk_list (xs := (Nam.way0 B).map nmV)) gives_at nD1 (by rw [List.length_map, hl0]; decide) (fun _ le => .of (le _ _ e7)) (fun v => match v with | .str z => some (.str (("zz" : Str) ++ z)) | _ => none) ?_ ?_
      · intro x H8 hx le N hN
        obtain ⟨l, hl, rfl⟩ := List.mem_map.mp hx
        obtain ⟨c, hc, rfl⟩ := List.mem_map.mp hl
        refine ⟨rfl, _, rfl, _, SX.S [c], rfl, rfl, le_szl _ (by show 2 + 1 ≤ _; decide), hN _ .refl⟩
      intro H8 l8 e8
      have e8 : H8 D1 = some (.lst ((B.map fun c => 122 :: 122 :: [c]).map nmV)) := by
        rw [e8, fm_map (Nam.way0 B) _ nmV (fun l => nmV (122 :: 122 :: l)) (fun l _ => by
          show some (V.str (SX.S [122, 122] ++ SX.S l)) = _
          rw [cat_S]
          rfl)]
        unfold Nam.way0
        rw [List.map_map, List.map_map]
        rfl
      have e78 := l8 _ _ e7
      -- the outer comprehension's list
      refine ⟨_, rfl, p, _, rfl, .of e78, fun D2 nD2 => ?_⟩
      refine lc_pure walk_enum nD2 (le_szl _ (by rw [List.length_map, hl0]; decide)) (fun _ le => .of (le _ _ e78)) ?_ (fun i => (B[i]?).map fun c => nmV (c :: List.replicate (i % 3) 119)) ?_ ?_
      · rintro i H9 x H10 ⟨T9, y, z, rfl, nT, rfl, _⟩
        exact Le.new nT
      · rintro i x H9 H10 hi le ⟨T9, y, z, rfl, nT, rfl, hy, hz⟩ N hN
        cases hy
        have hz : ((Nam.way0 B).map nmV)[i]? = some z := hz
        rw [List.getElem?_map, show Nam.way0 B = B.map fun c => [c] from rfl, List.getElem?_map] at hz
        obtain ⟨l0, hl0, rfl⟩ := Option.map_eq_some_iff.mp hz
        obtain ⟨c, hc, rfl⟩ := Option.map_eq_some_iff.mp hl0
        have hN := hN _ Le.refl
        rw [hc] at hN
        refine ⟨T9, _, rfl, .of upd_self, rfl, _, _, rfl, _, _, rfl, rfl, rfl, ?_⟩
        have e : ((i : Nat) : Int) % 3 = ((i % 3 : Nat) : Int) := by omega
        refine ⟨_, rfl, _, rfl, .inl ⟨_, rfl, _, _, rfl, rfl, (show (0 : Int) < 3 by decide), ("w" : Str), i % 3, rfl, congrArg V.int e, by show 1 * (i % 3) ≤ _; omega, by omega, ?_⟩⟩
        have em : Txt.mul ("w" : Str) ((i % 3 : Nat) : Int) = SX.S (List.replicate (i % 3) 119) := by
          have h3 : i % 3 = 0 ∨ i % 3 = 1 ∨ i % 3 = 2 := by omega
          rcases h3 with h | h | h <;> rw [h] <;> decide +kernel
        rw [em]
        refine ⟨SX.S [c], _, rfl, rfl, le_szl _ (by rw [SX.S_len, SX.S_len, List.length_replicate]; show 1 + _ ≤ _; omega), ?_⟩
        rw [cat_S]
        exact hN
      intro H9 l9 e9
      have e9 : H9 D2 = some (.lst ((Nam.heads B).map nmV)) := by
        rw [e9]
        unfold Nam.heads
        rw [List.map_map, List.length_map, hl0, ← hBl]
        exact congrArg (fun z => some (HO.lst z)) (fm_zip B fun c i => nmV (c :: List.replicate (i % 3) 119))
      have e89 := l9 _ _ e8
      have hlen : (Nam.heads B).length = 23 := by unfold Nam.heads; simp [hBl]
      refine ⟨_, rfl, D2, D1, _, _, rfl, rfl, e9, e89, le_szl _ (by rw [List.length_map, List.length_map, List.length_map, hlen, hBl]; decide), fun D3 nD3 => ?_⟩
      rw [← List.map_append]
      have e10 : upd H9 D3 (.lst ((Nam.heads B ++ B.map fun c => 122 :: 122 :: [c]).map nmV)) D3 = some (.lst ((Nam.heads B ++ B.map fun c => 122 :: 122 :: [c]).map nmV)) := upd_self
      have l10 : Le H7 (upd H9 D3 (.lst ((Nam.heads B ++ B.map fun c => 122 :: 122 :: [c]).map nmV))) := l8.trans (l9.trans (Le.new nD3))
      generalize upd H9 D3 (.lst ((Nam.heads B ++ B.map fun c => 122 :: 122 :: [c]).map nmV)) = H10 at e10 l10 ⊢
      have hlen2 : (Nam.heads B ++ B.map fun c => 122 :: 122 :: [c]).length = 46 := by rw [List.length_append, hlen, List.length_map, hBl]
      refine ⟨D3, rfl, ⟨_, .of e10⟩, fun D4 nD4 => ?_⟩
      refine lc_fm (walk_list (xs := (Nam.heads B ++ B.map fun c => 122 :: 122 :: [c]).map nmV)) gives_at nD4 (by rw [List.length_map, hlen2]; decide) (fun _ le => .of (le _ _ e10)) (fun v => match v with | .str z => some (.str (SX.S st ++ z)) | _ => none) ?_ ?_
      · intro x H11 hx le N hN
        obtain ⟨l, hl, rfl⟩ := List.mem_map.mp hx
        have hll : l.length ≤ 3 := by
          rcases List.mem_append.mp hl with h | h
          · obtain ⟨y, _, rfl⟩ := List.mem_map.mp h; simp; omega
          · obtain ⟨y, _, rfl⟩ := List.mem_map.mp h; simp
        exact ⟨rfl, _, rfl, _, rfl, SX.S st, SX.S l, rfl, rfl, le_szl _ (by rw [SX.S_len, SX.S_len]; omega), hN _ .refl⟩
      intro H11 l11 e11
      have e11 : H11 D4 = some (.lst ((Nam.way2 st B).map nmV)) := by
        rw [e11, fm_map _ _ nmV (fun l => nmV (st ++ l)) (fun l _ => by
          show some (V.str (SX.S st ++ SX.S l)) = _
          rw [cat_S]
          rfl)]
        unfold Nam.way2
        rw [List.map_map]
        rfl
      exact ⟨D4, Nam.way2 st B, _, _, _, _, l7.tr (l10.trans l11).x, p7.le (l10.trans l11), e11, Nam.nd2 bnd ball, Nam.ok2 sc sl ball, by rw [Nam.len2, hBl]; decide, by rw [Nam.len2, hBl]; decide, rfl⟩
    · have hl0 : (Nam.way0 B).length = 23 := by unfold Nam.way0; rw [List.length_map]; exact hBl
      refine ⟨p, _, _, _, _, _, l7, p7, e7, ?_, ?_, ?_, ?_, rfl⟩
      · split
        · exact Nam.nd1 bnd
        · exact Nam.nd0 bnd
      · split
        · exact Nam.ok1 sc sl ball
        · exact Nam.ok0 ball
      · split
        · rw [Nam.len1, hBl]; decide
        · rw [hl0]; exact Nat.le_refl _
      · split
        · rw [Nam.len1, hBl]; decide
        · rw [hl0]; decide
  rintro σ' H8 ⟨p, L, x8, x9, x10, x11, l8, p8, e8, ndL, okL, L0, L1, rfl⟩
  obtain ⟨ndR, okR⟩ := good_of ndL okL
  generalize hR : L.map SX.S = R at ndR okR
  have hRl : R.length = L.length := by rw [← hR, List.length_map]
  have e8 : H8 p = some (.lst (R.map V.str)) := by rw [e8, ← hR, List.map_map]; rfl
  -- without the barred ones
  refine ⟨_, rfl, p, rfl, ⟨_, .of e8⟩, fun D nD => ?_⟩
  refine lc_fm (walk_list (xs := R.map V.str)) gives_at nD (by rw [List.length_map, hRl]; omega) (fun _ le => .of (le _ _ e8)) (fun v => match v with | .str z => if (!decide (z ∈ barL)) = true then some (.str z) else none | _ => none) ?_ ?_
  · intro x H9 hx le N hN
    obtain ⟨z, hz, rfl⟩ := List.mem_map.mp hx
    refine ⟨rfl, _, rfl, rfl, fun q H10 l10 nq eq => ?_⟩
    refine ⟨q, _, rfl, .inl (.of eq), rfl, flat_row barL, _, rfl, ?_⟩
    have hN := hN H10 l10
    show if (!inV (.str z) (barL.map V.str)) = true then _ else _
    rw [inV_str]
    refine ite2 (fun c => ?_) (fun c => ?_)
    · exact ⟨_, rfl, by have h := hN; simp only at h; rw [if_pos c] at h; exact h⟩
    · have h := hN; simp only at h; rw [if_neg c] at h; exact h
  intro H9 l9 e9
  rw [fm_filter R _ V.str (fun z => !decide (z ∈ barL)) fun _ _ => rfl] at e9
  refine ⟨_, rfl, _, rfl, D, _, rfl, .of e9, fun q nq => ?_⟩
  rw [cutV_to, ← List.map_take]
  have hfl := Nam.left_len (L := R) (bar := barL) ndR
  have hb : barL.length = 8 := rfl
  generalize hS : (R.filter fun z => !decide (z ∈ barL)) = S0 at *
  have lS0 : S0.length ≤ 46 := by
    rw [← hS]
    have := List.length_filter_le (fun z => !decide (z ∈ barL)) R
    omega
  have eqq : upd H9 q (.lst ((S0.take many).map V.str)) q = some (.lst ((S0.take many).map V.str)) := upd_self
  have l10 : Le H8 (upd H9 q (.lst ((S0.take many).map V.str))) := l9.trans (Le.new nq)
  generalize upd H9 q (.lst ((S0.take many).map V.str)) = H10 at eqq l10 ⊢
  have lt1 : (S0.take many).length ≤ 46 := by rw [List.length_take]; omega
  refine ⟨_, rfl, _, rfl, d, dl, q, _, _, rfl, p8.le l10, by omega, .of eqq, by rw [List.length_map]; omega, fun q2 ys H11 l11 p11 nq2 e11 pm => ?_⟩
  obtain ⟨r, pr, rfl⟩ := perm_str pm
  have l12 := l8.tr l10.x
  refine qq q2 r H11 (l12.tr l11) (p11.mono (by rw [List.length_map]; omega)) ?_ e11 ⟨?_, fun z hz => ?_⟩ ?_ ?_
  · cases h : H q2 with
    | none => rfl
    | some o =>
      have nd2 : q2 ≠ d := fun e => by
        obtain ⟨kvs, z⟩ := (p8.le l10).dict
        rw [← e, nq2] at z; cases z
      have := l12 q2 o nd2 h
      rw [nq2] at this; cases this
  · refine pr.nodup_iff.mpr ((List.take_sublist _ _).nodup ?_)
    rw [← hS]
    exact List.filter_sublist.nodup ndR
  · have hz2 := List.mem_of_mem_take (pr.mem_iff.mp hz)
    rw [← hS] at hz2
    obtain ⟨h1, h2⟩ := List.mem_filter.mp hz2
    obtain ⟨h3, h4⟩ := okR z h1
    exact ⟨h3, by simpa using h2, h4⟩
  · rw [pr.length_eq, List.length_take]; omega
  · intro hm
    rw [pr.length_eq, List.length_take]
    omega
end
end Od
end
section
set_option Elab.async false
set_option linter.all false
set_option maxRecDepth 100000
set_option maxHeartbeats 2000000
set_option autoImplicit false
/-! rows as data: equal ones, ones among others -/
namespace Od
open PySem PySem.Spec PyProof.Rows L2 C8
def dRow (r : Row) : PyData := .list (r.map PyData.str)
def dRows (rs : List Row) : PyData := .list (rs.map dRow)
theorem dpAll_str {K : PySem.W.Frag} {H : Hp} : ∀ r : Row, DpAll K H (r.map V.str) (r.map PyData.str)
  | [] => .nil
  | x :: r => .cons (.str x) (dpAll_str r)
theorem dp_row {K : PySem.W.Frag} {H : Hp} {p : Addr} {r : Row} (h : IsRow H p r) : Dp K H (.ref p) (dRow r) := .lst (.of h) (dpAll_str r)
theorem dpAll_rows {K : PySem.W.Frag} {H : Hp} : ∀ {ps : PR}, Prs H ps → DpAll K H (refs ps) ((rows ps).map dRow)
  | [], _ => .nil
  | x :: ps, h => .cons (dp_row (h x List.mem_cons_self)) (dpAll_rows fun y hy => h y (List.mem_cons_of_mem _ hy))
theorem dp_rows {K : PySem.W.Frag} {H : Hp} {q : Addr} {ps : PR} (h : H q = some (.lst (refs ps))) (p : Prs H ps) : Dp K H (.ref q) (dRows (rows ps)) := .lst (.of h) (dpAll_rows p)
theorem ok_str {z : Str} (h : Nm z) : PyData.strOk z = true := by
  unfold PyData.strOk
  rw [← Array.all_toList, List.all_eq_true]
  intro c hc
  have := h.1 c hc
  exact decide_eq_true (by omega)
theorem can_row : ∀ {r : Row}, (∀ z ∈ r, Nm z) → PyData.canLayAll0 (r.map PyData.str) = true ∧ PyData.depthAll (r.map PyData.str) = 0
  | [], _ => ⟨rfl, rfl⟩
  | x :: r, h => by
    obtain ⟨h1, h2⟩ := can_row fun z hz => h z (List.mem_cons_of_mem _ hz)
    refine ⟨?_, ?_⟩
    · rw [List.map_cons]
      unfold PyData.canLayAll0
      rw [h1, Bool.and_true]
      exact ok_str (h x List.mem_cons_self)
    · rw [List.map_cons]
      unfold PyData.depthAll
      rw [h2]
      rfl
theorem row_lay {r : Row} (h : ∀ z ∈ r, Nm z) : PyData.canLay0 (dRow r) = true ∧ PyData.depth (dRow r) = 1 := by
  obtain ⟨h1, h2⟩ := can_row h
  refine ⟨h1, ?_⟩
  show PyData.depthAll (r.map PyData.str) + 1 = 1
  rw [h2]
theorem shaped_row {r : Row} (h : ∀ z ∈ r, Nm z) : SeqAt.shaped (dRow r) = true := by
  obtain ⟨h1, h2⟩ := row_lay h
  unfold SeqAt.shaped
  rw [h1, h2]
  rfl
theorem rows_lay : ∀ {rs : List Row}, (∀ r ∈ rs, ∀ z ∈ r, Nm z) → PyData.canLayAll0 (rs.map dRow) = true ∧ PyData.depthAll (rs.map dRow) ≤ 1
  | [], _ => ⟨rfl, Nat.zero_le _⟩
  | x :: rs, h => by
    obtain ⟨h1, h2⟩ := rows_lay fun z hz => h z (List.mem_cons_of_mem _ hz)
    obtain ⟨h3, h4⟩ := row_lay (h x List.mem_cons_self)
    refine ⟨?_, ?_⟩
    · rw [List.map_cons]
      unfold PyData.canLayAll0
      rw [h1, h3]
      rfl
    · rw [List.map_cons]
      unfold PyData.depthAll
      rw [h4]
      omega
theorem shaped_rows {rs : List Row} (h : ∀ r ∈ rs, ∀ z ∈ r, Nm z) : SeqAt.shaped (dRows rs) = true := by
  obtain ⟨h1, h2⟩ := rows_lay h
  unfold SeqAt.shaped
  have e1 : (dRows rs).canLay0 = true := h1
  have e2 : (dRows rs).depth = PyData.depthAll (rs.map dRow) + 1 := rfl
  rw [e1, e2]
  simp
  omega
theorem eqv_str : ∀ r s : Row, PyData.eqvAll (r.map PyData.str) (s.map PyData.str) = decide (r = s)
  | [], [] => rfl
  | [], y :: s => by rw [decide_eq_false (by simp)]; rfl
  | x :: r, [] => by rw [decide_eq_false (by simp)]; rfl
  | x :: r, y :: s => by
    rw [List.map_cons, List.map_cons]
    show ((x == y) && PyData.eqvAll (r.map PyData.str) (s.map PyData.str)) = _
    rw [eqv_str r s]
    by_cases h1 : x = y
    · subst h1
      by_cases h2 : r = s
      · subst h2; simp
      · rw [decide_eq_false h2, Bool.and_false, decide_eq_false (by simp [h2])]
    · rw [beq_eq_false_iff_ne.mpr h1, Bool.false_and, decide_eq_false (by simp [h1])]
theorem eqv_row (r s : Row) : PyData.eqv (dRow r) (dRow s) = decide (r = s) := eqv_str r s
theorem any_row (rs : List Row) (r : Row) : ((rs.map dRow).any fun z => PyData.eqv z (dRow r)) = decide (r ∈ rs) := by
  rw [List.any_map, Bool.eq_iff_iff, List.any_eq_true, decide_eq_true_iff]
  constructor
  · rintro ⟨s, hs, h⟩
    have h : PyData.eqv (dRow s) (dRow r) = true := h
    rw [eqv_row] at h
    rw [← of_decide_eq_true h]; exact hs
  · intro h
    exact ⟨r, h, by show PyData.eqv (dRow r) (dRow r) = true; rw [eqv_row]; exact decide_eq_true rfl⟩
theorem eqv_rows (rs : List Row) (h : ∀ r ∈ rs, ∀ z ∈ r, Nm z) : PyData.eqv (dRows rs) (dRows rs) = true := SeqAt.eqv_refl _ (rows_lay h).1
theorem u65 {k : Nat} {A : Around} (r : Room k A) : A.units + 65 < cLine := by have := r.un; omega
end Od
end
section
set_option Elab.async false
set_option linter.all false
set_option maxRecDepth 100000
set_option maxHeartbeats 2000000
set_option autoImplicit false
/-! law k70: each error of the package -/
namespace Od
open PySem PySem.Spec PyProof.Rows L2 C8
abbrev s__law_classes : Stmt := top 24
abbrev N__law_classes : List Str := ["_law_e", "_law_one"]
abbrev P__law_classes : List Str := ["_law_e"]
theorem sc__law_classes : FnScope N__law_classes P__law_classes (C8.fnScope s__law_classes) := fnScope_by (by decide +kernel)
abbrev s__law_is_one : Stmt := top 25
abbrev N__law_is_one : List Str := ["_law_e", "_law_kind"]
abbrev P__law_is_one : List Str := ["_law_e", "_law_kind"]
theorem sc__law_is_one : FnScope N__law_is_one P__law_is_one (C8.fnScope s__law_is_one) := fnScope_by (by decide +kernel)
abbrev s__law_numbered : Stmt := top 26
abbrev N__law_numbered : List Str := ["_law_number", "_law_one", "_law_two", "_law_three", "_law_four", "_law_five", "_law_found"]
abbrev P__law_numbered : List Str := ["_law_number"]
theorem sc__law_numbered : FnScope N__law_numbered P__law_numbered (C8.fnScope s__law_numbered) := fnScope_by (by decide +kernel)
abbrev s__law_named : Stmt := top 27
abbrev N__law_named : List Str := ["_law_text", "_law_one", "_law_two", "_law_three", "_law_four", "_law_five", "_law_found"]
abbrev P__law_named : List Str := ["_law_text"]
theorem sc__law_named : FnScope N__law_named P__law_named (C8.fnScope s__law_named) := fnScope_by (by decide +kernel)
abbrev s__law_others_right : Stmt := top 28
abbrev N__law_others_right : List Str := ["_law_pen_here", "_law_names_here", "_law_one", "_law_two", "_law_three", "_law_four", "_law_five", "_law_good"]
abbrev P__law_others_right : List Str := ["_law_pen_here"]
theorem sc__law_others_right : FnScope N__law_others_right P__law_others_right (C8.fnScope s__law_others_right) := fnScope_by (by decide +kernel)
abbrev s_law : Stmt := top 29
abbrev N_law : List Str := ["_law_script", "_law_pen_here", "_law_turn", "_law_number", "_law_text", "_law_e", "_law_field", "_law_kind"]
abbrev P_law : List Str := ["_law_script"]
theorem sc_law : FnScope N_law P_law (C8.fnScope s_law) := fnScope_by (by decide +kernel)
/-- the classes, as the law asks them -/
def errN (i : Fin 15) : Str := match i.val with
  | 0 => "BadCount" | 1 => "BadDays" | 2 => "BadMap" | 3 => "BadName" | 4 => "BadRule" | 5 => "Barred" | 6 => "Endless" | 7 => "NoChain" | 8 => "NoPromise" | 9 => "NotOneTerm"
  | 10 => "NothingToUndo" | 11 => "NoWalker" | 12 => "OtherMap" | 13 => "Taken" | _ => "TooMany"
structure ErrC (K : PySem.W.Frag) (mg : Str → Option Value) (cl : Fin 15 → Addr) (ow : Addr) : Prop where
  ve : mg "ValueError" = none
  g_OneWayError : ∃ u, mg "OneWayError" = some u ∧ L2.RelV (.ref ow) u
  g_BadCount : ∃ u, mg "BadCount" = some u ∧ L2.RelV (.ref (cl 0)) u
  g_BadDays : ∃ u, mg "BadDays" = some u ∧ L2.RelV (.ref (cl 1)) u
  g_BadMap : ∃ u, mg "BadMap" = some u ∧ L2.RelV (.ref (cl 2)) u
  g_BadName : ∃ u, mg "BadName" = some u ∧ L2.RelV (.ref (cl 3)) u
  g_BadRule : ∃ u, mg "BadRule" = some u ∧ L2.RelV (.ref (cl 4)) u
  g_Barred : ∃ u, mg "Barred" = some u ∧ L2.RelV (.ref (cl 5)) u
  g_Endless : ∃ u, mg "Endless" = some u ∧ L2.RelV (.ref (cl 6)) u
  g_NoChain : ∃ u, mg "NoChain" = some u ∧ L2.RelV (.ref (cl 7)) u
  g_NoPromise : ∃ u, mg "NoPromise" = some u ∧ L2.RelV (.ref (cl 8)) u
  g_NotOneTerm : ∃ u, mg "NotOneTerm" = some u ∧ L2.RelV (.ref (cl 9)) u
  g_NothingToUndo : ∃ u, mg "NothingToUndo" = some u ∧ L2.RelV (.ref (cl 10)) u
  g_NoWalker : ∃ u, mg "NoWalker" = some u ∧ L2.RelV (.ref (cl 11)) u
  g_OtherMap : ∃ u, mg "OtherMap" = some u ∧ L2.RelV (.ref (cl 12)) u
  g_Taken : ∃ u, mg "Taken" = some u ∧ L2.RelV (.ref (cl 13)) u
  g_TooMany : ∃ u, mg "TooMany" = some u ∧ L2.RelV (.ref (cl 14)) u
  sc : ∀ i, SupC K (cl i)
  kit : ∀ i j, PySem.W.kitOne K (.ref (cl i)) (.ref (cl j)) = some (decide (i = j))
  kitB : ∀ i, PySem.W.kitOne K (.ref (cl i)) (.ref ow) = some true
  kitV : ∀ i, PySem.W.kitOne K (.ref (cl i)) (.type "ValueError") = some true
  n_index1 : PySem.W.findIn K (.ref (cl 1)) "index" = some none
  n_line : PySem.W.findIn K (.ref (cl 2)) "line" = some none
  n_index4 : PySem.W.findIn K (.ref (cl 4)) "index" = some none
  n_limit : PySem.W.findIn K (.ref (cl 14)) "limit" = some none
  n_count : PySem.W.findIn K (.ref (cl 0)) "count" = some none
  n_name7 : PySem.W.findIn K (.ref (cl 7)) "name" = some none
  n_name3 : PySem.W.findIn K (.ref (cl 3)) "name" = some none
  n_name11 : PySem.W.findIn K (.ref (cl 11)) "name" = some none
  n_name13 : PySem.W.findIn K (.ref (cl 13)) "name" = some none
  n_name8 : PySem.W.findIn K (.ref (cl 8)) "name" = some none
  n_names : PySem.W.findIn K (.ref (cl 5)) "names" = some none
theorem relR {a : Addr} : ∀ u, L2.RelV (.ref a) u → u = .ref a := fun _ h => h
theorem relT {n : String} : ∀ u, L2.RelV (.ty n) u → u = .type n := fun _ h => h
/-- an error that is made -/
theorem mk_le {H H1 : Hp} {a : Addr} {o : HO} (na : H a = none) (lx : LeX a (upd H a o) H1) : Le H H1 := fun b u h => lx b u (ne_of_new na h) (by rw [upd_ne (ne_of_new na h)]; exact h)
section
variable {P : Program} {w : World} {K : PySem.W.Frag} {mg : Str → Option Value} {base : Heap} {cl : Fin 15 → Addr} {ow : Addr}
def sp_classes (cl : Fin 15 → Addr) : Sp := fun vs H Q _ => ∃ (e : Addr) (i : Fin 15) (fs : List (Str × V)), vs = [.ref e] ∧ ErrAt H e (cl i) fs ∧ Q (.int 1) H
theorem c_classes (T : Txt K mg) (EC : ErrC K mg cl ow) (F : DefOf K mg "_law_classes" s__law_classes P__law_classes) : Cal P w K mg base 1 "_law_classes" (sp_classes cl) [] := by
  obtain ⟨f, fd, F, B⟩ := F
  refine cal0 F B .nil sc__law_classes (fun vs H Q E h => by obtain ⟨_, _, _, rfl, _⟩ := h; rfl) (fun cdv A outer s H vs Q E hr h => ?_)
  obtain ⟨e, i, fs, rfl, ea, qq⟩ := h
  have nd := sc__law_classes.nd
  refine ⟨_, (pss_cons (ps_set (i := 1) nd rfl (Or.inl rfl) (pe_op op_add (pe_op op_add (pe_callTy call_int1 (by rfl) T.b_int (by decide +kernel) (pa_cons (pe_callB call_isX (by rfl) T.b_isinstance (by decide +kernel) (pa_cons (pv 0) (pa_cons (pe_gc rfl EC.g_BadCount) pa_nil))) pa_nil)) (pe_callTy call_int1 (by rfl) T.b_int (by decide +kernel) (pa_cons (pe_callB call_isX (by rfl) T.b_isinstance (by decide +kernel) (pa_cons (pv 0) (pa_cons (pe_gc rfl EC.g_BadDays) pa_nil))) pa_nil))) (pe_callTy call_int1 (by rfl) T.b_int (by decide +kernel) (pa_cons (pe_callB call_isX (by rfl) T.b_isinstance (by decide +kernel) (pa_cons (pv 0) (pa_cons (pe_gc rfl EC.g_BadMap) pa_nil))) pa_nil))))
      (pss_cons (ps_set (i := 1) nd rfl (Or.inl rfl) (pe_op op_add (pe_op op_add (pe_op op_add (pv 1) (pe_callTy call_int1 (by rfl) T.b_int (by decide +kernel) (pa_cons (pe_callB call_isX (by rfl) T.b_isinstance (by decide +kernel) (pa_cons (pv 0) (pa_cons (pe_gc rfl EC.g_BadName) pa_nil))) pa_nil))) (pe_callTy call_int1 (by rfl) T.b_int (by decide +kernel) (pa_cons (pe_callB call_isX (by rfl) T.b_isinstance (by decide +kernel) (pa_cons (pv 0) (pa_cons (pe_gc rfl EC.g_BadRule) pa_nil))) pa_nil))) (pe_callTy call_int1 (by rfl) T.b_int (by decide +kernel) (pa_cons (pe_callB call_isX (by rfl) T.b_isinstance (by decide +kernel) (pa_cons (pv 0) (pa_cons (pe_gc rfl EC.g_Barred) pa_nil))) pa_nil))))
      (pss_cons (ps_set (i := 1) nd rfl (Or.inl rfl) (pe_op op_add (pe_op op_add (pe_op op_add (pv 1) (pe_callTy call_int1 (by rfl) T.b_int (by decide +kernel) (pa_cons (pe_callB call_isX (by rfl) T.b_isinstance (by decide +kernel) (pa_cons (pv 0) (pa_cons (pe_gc rfl EC.g_Endless) pa_nil))) pa_nil))) (pe_callTy call_int1 (by rfl) T.b_int (by decide +kernel) (pa_cons (pe_callB call_isX (by rfl) T.b_isinstance (by decide +kernel) (pa_cons (pv 0) (pa_cons (pe_gc rfl EC.g_NoChain) pa_nil))) pa_nil))) (pe_callTy call_int1 (by rfl) T.b_int (by decide +kernel) (pa_cons (pe_callB call_isX (by rfl) T.b_isinstance (by decide +kernel) (pa_cons (pv 0) (pa_cons (pe_gc rfl EC.g_NoPromise) pa_nil))) pa_nil))))
      (pss_cons (ps_set (i := 1) nd rfl (Or.inl rfl) (pe_op op_add (pe_op op_add (pe_op op_add (pv 1) (pe_callTy call_int1 (by rfl) T.b_int (by decide +kernel) (pa_cons (pe_callB call_isX (by rfl) T.b_isinstance (by decide +kernel) (pa_cons (pv 0) (pa_cons (pe_gc rfl EC.g_NotOneTerm) pa_nil))) pa_nil))) (pe_callTy call_int1 (by rfl) T.b_int (by decide +kernel) (pa_cons (pe_callB call_isX (by rfl) T.b_isinstance (by decide +kernel) (pa_cons (pv 0) (pa_cons (pe_gc rfl EC.g_NothingToUndo) pa_nil))) pa_nil))) (pe_callTy call_int1 (by rfl) T.b_int (by decide +kernel) (pa_cons (pe_callB call_isX (by rfl) T.b_isinstance (by decide +kernel) (pa_cons (pv 0) (pa_cons (pe_gc rfl EC.g_NoWalker) pa_nil))) pa_nil))))
      (pss_one (ps_ret (pe_op op_add (pe_op op_add (pe_op op_add (pv 1) (pe_callTy call_int1 (by rfl) T.b_int (by decide +kernel) (pa_cons (pe_callB call_isX (by rfl) T.b_isinstance (by decide +kernel) (pa_cons (pv 0) (pa_cons (pe_gc rfl EC.g_OtherMap) pa_nil))) pa_nil))) (pe_callTy call_int1 (by rfl) T.b_int (by decide +kernel) (pa_cons (pe_callB call_isX (by rfl) T.b_isinstance (by decide +kernel) (pa_cons (pv 0) (pa_cons (pe_gc rfl EC.g_Taken) pa_nil))) pa_nil))) (pe_callTy call_int1 (by rfl) T.b_int (by decide +kernel) (pa_cons (pe_callB call_isX (by rfl) T.b_isinstance (by decide +kernel) (pa_cons (pv 0) (pa_cons (pe_gc rfl EC.g_TooMany) pa_nil))) pa_nil))))))))), ?_⟩
  refine ⟨_, rfl, e, cl i, fs, _, _, _, rfl, ea, (EC.sc i).ec, relR, EC.kit i 0, .inr ⟨_, rfl, ?_⟩⟩
  refine ⟨_, rfl, e, cl i, fs, _, _, _, rfl, ea, (EC.sc i).ec, relR, EC.kit i 1, .inr ⟨_, rfl, ?_⟩⟩
  refine ⟨_, _, rfl, rfl, ?_⟩
  refine ⟨_, rfl, e, cl i, fs, _, _, _, rfl, ea, (EC.sc i).ec, relR, EC.kit i 2, .inr ⟨_, rfl, ?_⟩⟩
  refine ⟨_, _, rfl, rfl, ?_⟩
  refine ⟨_, rfl, _, rfl, e, cl i, fs, _, _, _, rfl, ea, (EC.sc i).ec, relR, EC.kit i 3, .inr ⟨_, rfl, ?_⟩⟩
  refine ⟨_, _, rfl, rfl, ?_⟩
  refine ⟨_, rfl, e, cl i, fs, _, _, _, rfl, ea, (EC.sc i).ec, relR, EC.kit i 4, .inr ⟨_, rfl, ?_⟩⟩
  refine ⟨_, _, rfl, rfl, ?_⟩
  refine ⟨_, rfl, e, cl i, fs, _, _, _, rfl, ea, (EC.sc i).ec, relR, EC.kit i 5, .inr ⟨_, rfl, ?_⟩⟩
  refine ⟨_, _, rfl, rfl, ?_⟩
  refine ⟨_, rfl, _, rfl, e, cl i, fs, _, _, _, rfl, ea, (EC.sc i).ec, relR, EC.kit i 6, .inr ⟨_, rfl, ?_⟩⟩
  refine ⟨_, _, rfl, rfl, ?_⟩
  refine ⟨_, rfl, e, cl i, fs, _, _, _, rfl, ea, (EC.sc i).ec, relR, EC.kit i 7, .inr ⟨_, rfl, ?_⟩⟩
  refine ⟨_, _, rfl, rfl, ?_⟩
  refine ⟨_, rfl, e, cl i, fs, _, _, _, rfl, ea, (EC.sc i).ec, relR, EC.kit i 8, .inr ⟨_, rfl, ?_⟩⟩
  refine ⟨_, _, rfl, rfl, ?_⟩
  refine ⟨_, rfl, _, rfl, e, cl i, fs, _, _, _, rfl, ea, (EC.sc i).ec, relR, EC.kit i 9, .inr ⟨_, rfl, ?_⟩⟩
  refine ⟨_, _, rfl, rfl, ?_⟩
  refine ⟨_, rfl, e, cl i, fs, _, _, _, rfl, ea, (EC.sc i).ec, relR, EC.kit i 10, .inr ⟨_, rfl, ?_⟩⟩
  refine ⟨_, _, rfl, rfl, ?_⟩
  refine ⟨_, rfl, e, cl i, fs, _, _, _, rfl, ea, (EC.sc i).ec, relR, EC.kit i 11, .inr ⟨_, rfl, ?_⟩⟩
  refine ⟨_, _, rfl, rfl, ?_⟩
  refine ⟨_, rfl, _, rfl, e, cl i, fs, _, _, _, rfl, ea, (EC.sc i).ec, relR, EC.kit i 12, .inr ⟨_, rfl, ?_⟩⟩
  refine ⟨_, _, rfl, rfl, ?_⟩
  refine ⟨_, rfl, e, cl i, fs, _, _, _, rfl, ea, (EC.sc i).ec, relR, EC.kit i 13, .inr ⟨_, rfl, ?_⟩⟩
  refine ⟨_, _, rfl, rfl, ?_⟩
  refine ⟨_, rfl, e, cl i, fs, _, _, _, rfl, ea, (EC.sc i).ec, relR, EC.kit i 14, .inr ⟨_, rfl, ?_⟩⟩
  refine ⟨_, _, rfl, rfl, ?_⟩
  have key : ∀ i : Fin 15, ((((((((((((((if decide (i = 0) = true then (1 : Int) else 0) + (if decide (i = 1) = true then 1 else 0)) + (if decide (i = 2) = true then 1 else 0)) + (if decide (i = 3) = true then 1 else 0)) + (if decide (i = 4) = true then 1 else 0)) + (if decide (i = 5) = true then 1 else 0)) + (if decide (i = 6) = true then 1 else 0)) + (if decide (i = 7) = true then 1 else 0)) + (if decide (i = 8) = true then 1 else 0)) + (if decide (i = 9) = true then 1 else 0)) + (if decide (i = 10) = true then 1 else 0)) + (if decide (i = 11) = true then 1 else 0)) + (if decide (i = 12) = true then 1 else 0)) + (if decide (i = 13) = true then 1 else 0)) + (if decide (i = 14) = true then 1 else 0) = 1 := by decide +kernel
  show Q (.int (((((((((((((((if decide (i = 0) = true then (1 : Int) else 0) + (if decide (i = 1) = true then 1 else 0)) + (if decide (i = 2) = true then 1 else 0)) + (if decide (i = 3) = true then 1 else 0)) + (if decide (i = 4) = true then 1 else 0)) + (if decide (i = 5) = true then 1 else 0)) + (if decide (i = 6) = true then 1 else 0)) + (if decide (i = 7) = true then 1 else 0)) + (if decide (i = 8) = true then 1 else 0)) + (if decide (i = 9) = true then 1 else 0)) + (if decide (i = 10) = true then 1 else 0)) + (if decide (i = 11) = true then 1 else 0)) + (if decide (i = 12) = true then 1 else 0)) + (if decide (i = 13) = true then 1 else 0)) + (if decide (i = 14) = true then 1 else 0))) H
  rw [key i]
  exact qq
def sp_isone (cl : Fin 15 → Addr) : Sp := fun vs H Q _ => ∃ (e : Addr) (i : Fin 15) (fs : List (Str × V)), vs = [.ref e, .bl true] ∧ ErrAt H e (cl i) fs ∧ Q (.bl true) H
theorem c_isone (T : Txt K mg) (EC : ErrC K mg cl ow) (F : DefOf K mg "_law_is_one" s__law_is_one P__law_is_one) (C__law_classes : Cal P w K mg base 1 "_law_classes" (sp_classes cl) []) : Cal P w K mg base 2 "_law_is_one" (sp_isone cl) [] := by
  obtain ⟨f, fd, F, B⟩ := F
  refine cal0 F B .nil sc__law_is_one (fun vs H Q E h => by obtain ⟨_, _, _, rfl, _⟩ := h; rfl) (fun cdv A outer s H vs Q E hr h => ?_)
  obtain ⟨e, i, fs, rfl, ea, qq⟩ := h
  have nd := sc__law_is_one.nd
  refine ⟨_, (pss_one (ps_ret (pe_and (pv 1) (pe_and (pe_callB call_isX (by rfl) T.b_isinstance (by decide +kernel) (pa_cons (pv 0) (pa_cons (pe_gc rfl EC.g_OneWayError) pa_nil))) (pe_and (pe_callB call_isX (by rfl) T.b_isinstance (by decide +kernel) (pa_cons (pv 0) (pa_cons (pe_bltn (v := .ty "ValueError") (by rfl) EC.ve PyProof.Rows.Boot.«ValueError» rfl) pa_nil))) (pe_one (pe_cmpR op_eq (pe_c C__law_classes hr (by decide) rfl (pa_cons (pv 0) pa_nil)) pe_int (nomark _)))))))), ?_⟩
  refine ⟨_, rfl, _, rfl, iteT ?_⟩
  refine ⟨_, rfl, e, cl i, fs, _, _, _, rfl, ea, (EC.sc i).ec, relR, EC.kitB i, ?_⟩
  refine ⟨_, rfl, iteT ?_⟩
  refine ⟨_, rfl, e, cl i, fs, _, _, _, rfl, ea, (EC.sc i).ec, relT, EC.kitV i, ?_⟩
  refine ⟨_, rfl, iteT ?_⟩
  exact ⟨_, rfl, e, i, fs, rfl, ea, rfl, qq⟩
/-- a triple: the error, its field, whether it is of its class -/
def Trip (cl : Fin 15 → Addr) (H : Hp) (t : Addr) (v : V) : Prop := ∃ (e : Addr) (i : Fin 15) (fs : List (Str × V)), H t = some (.tup [.ref e, v, .bl true]) ∧ ErrAt H e (cl i) fs
theorem Trip.le {H H' : Hp} {t : Addr} {v : V} (h : Trip cl H t v) (l : Le H H') : Trip cl H' t v := by
  obtain ⟨e, i, fs, h1, h2⟩ := h
  exact ⟨e, i, fs, l _ _ h1, h2.le l⟩
def sp_five (cl : Fin 15 → Addr) (ok : V → Prop) : Sp := fun vs H Q _ => ∃ v, vs = [v] ∧ ok v ∧ ∀ q H' (ts : List Addr), Le H H' → H' q = some (.lst (ts.map V.ref)) → (∀ t ∈ ts, Trip cl H' t v) → Q (.ref q) H'
theorem c_numbered (T : Txt K mg) (EC : ErrC K mg cl ow) (F : DefOf K mg "_law_numbered" s__law_numbered P__law_numbered) (O_BadDays : OMk P w K mg base 1 "BadDays" (cl 1) (sp_err (cl 1) "index" isInt9)) (O_BadMap : OMk P w K mg base 1 "BadMap" (cl 2) (sp_err (cl 2) "line" isInt9)) (O_BadRule : OMk P w K mg base 1 "BadRule" (cl 4) (sp_err (cl 4) "index" isInt9)) (O_BadCount : OMk P w K mg base 1 "BadCount" (cl 0) (sp_err (cl 0) "count" isInt9)) (O_TooMany : OMk P w K mg base 1 "TooMany" (cl 14) (sp_err (cl 14) "limit" isInt9)) : Cal P w K mg base 3 "_law_numbered" (sp_five cl isInt9) [] := by
  obtain ⟨f, fd, F, B⟩ := F
  refine cal0 F B .nil sc__law_numbered (fun vs H Q E h => by obtain ⟨_, rfl, _⟩ := h; rfl) (fun cdv A outer s H vs Q E hr h => ?_)
  obtain ⟨v, rfl, hv, qq⟩ := h
  have nd := sc__law_numbered.nd
  refine ⟨_, (pss_cons (L2.ps_par3 (i := 1) (j := 2) (l := 3) (by rfl) nd rfl rfl rfl (by decide) (by decide) (by decide) rfl rfl rfl (pa_cons (pe_mkV O_BadDays (hr.mono (by decide)) rfl (pa_cons (pv 0) pa_nil)) (pa_cons (pe_mkV O_BadMap (hr.mono (by decide)) rfl (pa_cons (pv 0) pa_nil)) (pa_cons (pe_mkV O_BadRule (hr.mono (by decide)) rfl (pa_cons (pv 0) pa_nil)) pa_nil))) (by rfl))
      (pss_cons (ps_par (i := 4) (j := 5) (by rfl) nd rfl rfl (by decide) rfl rfl (pa_cons (pe_mkV O_BadCount (hr.mono (by decide)) rfl (pa_cons (pv 0) pa_nil)) (pa_cons (pe_mkV O_TooMany (hr.mono (by decide)) rfl (pa_cons (pv 0) pa_nil)) pa_nil)) (by rfl))
      (pss_cons (ps_set (i := 6) nd rfl (Or.inl rfl) (pe_lst (pa_cons (pe_tup (pa_cons (pv 1) (pa_cons (pe_exf (pv 1)) (pa_cons (pe_callB call_isX (by rfl) T.b_isinstance (by decide +kernel) (pa_cons (pv 1) (pa_cons (pe_gc rfl EC.g_BadDays) pa_nil))) pa_nil)))) (pa_cons (pe_tup (pa_cons (pv 2) (pa_cons (pe_exf (pv 2)) (pa_cons (pe_callB call_isX (by rfl) T.b_isinstance (by decide +kernel) (pa_cons (pv 2) (pa_cons (pe_gc rfl EC.g_BadMap) pa_nil))) pa_nil)))) pa_nil))))
      (pss_cons (ps_set (i := 6) nd rfl (Or.inl rfl) (pe_op op_cat (pv 6) (pe_lst (pa_cons (pe_tup (pa_cons (pv 3) (pa_cons (pe_exf (pv 3)) (pa_cons (pe_callB call_isX (by rfl) T.b_isinstance (by decide +kernel) (pa_cons (pv 3) (pa_cons (pe_gc rfl EC.g_BadRule) pa_nil))) pa_nil)))) (pa_cons (pe_tup (pa_cons (pv 4) (pa_cons (pe_exf (pv 4)) (pa_cons (pe_callB call_isX (by rfl) T.b_isinstance (by decide +kernel) (pa_cons (pv 4) (pa_cons (pe_gc rfl EC.g_BadCount) pa_nil))) pa_nil)))) pa_nil)))))
      (pss_one (ps_ret (pe_op op_cat (pv 6) (pe_lst (pa_cons (pe_tup (pa_cons (pv 5) (pa_cons (pe_exf (pv 5)) (pa_cons (pe_callB call_isX (by rfl) T.b_isinstance (by decide +kernel) (pa_cons (pv 5) (pa_cons (pe_gc rfl EC.g_TooMany) pa_nil))) pa_nil)))) pa_nil))))))))), ?_⟩
  refine ⟨_, rfl, show 1 ≤ 1000 by decide, fun e1 na1 => ⟨e1, _, rfl, hv, upd_self, fun H1 lx1 _ a1 => ⟨rfl, ?_⟩⟩⟩
  have l1 := mk_le na1 lx1
  refine ⟨_, rfl, show 1 ≤ 1000 by decide, fun e2 na2 => ⟨e2, _, rfl, hv, upd_self, fun H2 lx2 _ a2 => ⟨rfl, ?_⟩⟩⟩
  have l2 := mk_le na2 lx2
  have a1 := a1.le l2
  refine ⟨_, rfl, show 1 ≤ 1000 by decide, fun e3 na3 => ⟨e3, _, rfl, hv, upd_self, fun H3 lx3 _ a3 => ⟨rfl, ?_⟩⟩⟩
  have l3 := mk_le na3 lx3
  have a1 := a1.le l3
  have a2 := a2.le l3
  refine ⟨_, _, _, rfl, ?_⟩
  refine ⟨_, rfl, show 1 ≤ 1000 by decide, fun e4 na4 => ⟨e4, _, rfl, hv, upd_self, fun H4 lx4 _ a4 => ⟨rfl, ?_⟩⟩⟩
  have l4 := mk_le na4 lx4
  have a1 := a1.le l4
  have a2 := a2.le l4
  have a3 := a3.le l4
  refine ⟨_, rfl, show 1 ≤ 1000 by decide, fun e5 na5 => ⟨e5, _, rfl, hv, upd_self, fun H5 lx5 _ a5 => ⟨rfl, ?_⟩⟩⟩
  have l5 := mk_le na5 lx5
  have a1 := a1.le l5
  have a2 := a2.le l5
  have a3 := a3.le l5
  have a4 := a4.le l5
  refine ⟨_, _, rfl, ?_⟩
  have le5 : Le H H5 := (((l1.trans l2).trans l3).trans l4).trans l5
  refine ⟨_, rfl, _, rfl, e1, cl 1, _, _, rfl, a1, (EC.sc 1).xf, EC.n_index1, rfl, _, rfl, e1, cl 1, _, _, _, _, rfl, a1, (EC.sc 1).ec, relR, EC.kit 1 1, le_szl 3 (by decide), fun t1 nt1 => ?_⟩
  have tp1 : Trip cl (upd H5 t1 (.tup [.ref e1, v, .bl (decide ((1 : Fin 15) = 1))])) t1 v := ⟨e1, 1, _, upd_self, a1.le (Le.new nt1)⟩
  have m1 := Le.new (H := H5) (o := .tup [.ref e1, v, .bl (decide ((1 : Fin 15) = 1))]) nt1
  generalize upd H5 t1 (.tup [.ref e1, v, .bl (decide ((1 : Fin 15) = 1))]) = T1 at tp1 m1 ⊢
  have a1 := a1.le m1
  have a2 := a2.le m1
  have a3 := a3.le m1
  have a4 := a4.le m1
  have a5 := a5.le m1
  refine ⟨_, rfl, _, rfl, e2, cl 2, _, _, rfl, a2, (EC.sc 2).xf, EC.n_line, rfl, _, rfl, e2, cl 2, _, _, _, _, rfl, a2, (EC.sc 2).ec, relR, EC.kit 2 2, le_szl 3 (by decide), fun t2 nt2 => ?_⟩
  have tp2 : Trip cl (upd T1 t2 (.tup [.ref e2, v, .bl (decide ((2 : Fin 15) = 2))])) t2 v := ⟨e2, 2, _, upd_self, a2.le (Le.new nt2)⟩
  have m2 := Le.new (H := T1) (o := .tup [.ref e2, v, .bl (decide ((2 : Fin 15) = 2))]) nt2
  generalize upd T1 t2 (.tup [.ref e2, v, .bl (decide ((2 : Fin 15) = 2))]) = T2 at tp2 m2 ⊢
  have a1 := a1.le m2
  have a2 := a2.le m2
  have a3 := a3.le m2
  have a4 := a4.le m2
  have a5 := a5.le m2
  have tp1 := tp1.le m2
  refine ⟨le_szl 2 (by decide), fun p np => ?_⟩
  have zp : upd T2 p (.lst [.ref t1, .ref t2]) p = some (.lst [.ref t1, .ref t2]) := upd_self
  have mp := Le.new (H := T2) (o := .lst [.ref t1, .ref t2]) np
  generalize upd T2 p (.lst [.ref t1, .ref t2]) = Lp at zp mp ⊢
  have a1 := a1.le mp
  have a2 := a2.le mp
  have a3 := a3.le mp
  have a4 := a4.le mp
  have a5 := a5.le mp
  have tp1 := tp1.le mp
  have tp2 := tp2.le mp
  refine ⟨_, rfl, ?_⟩
  refine ⟨_, rfl, _, rfl, e3, cl 4, _, _, rfl, a3, (EC.sc 4).xf, EC.n_index4, rfl, _, rfl, e3, cl 4, _, _, _, _, rfl, a3, (EC.sc 4).ec, relR, EC.kit 4 4, le_szl 3 (by decide), fun t3 nt3 => ?_⟩
  have tp3 : Trip cl (upd Lp t3 (.tup [.ref e3, v, .bl (decide ((4 : Fin 15) = 4))])) t3 v := ⟨e3, 4, _, upd_self, a3.le (Le.new nt3)⟩
  have m3 := Le.new (H := Lp) (o := .tup [.ref e3, v, .bl (decide ((4 : Fin 15) = 4))]) nt3
  generalize upd Lp t3 (.tup [.ref e3, v, .bl (decide ((4 : Fin 15) = 4))]) = T3 at tp3 m3 ⊢
  have a1 := a1.le m3
  have a2 := a2.le m3
  have a3 := a3.le m3
  have a4 := a4.le m3
  have a5 := a5.le m3
  have tp1 := tp1.le m3
  have tp2 := tp2.le m3
  have zp := m3 _ _ zp
  refine ⟨_, rfl, _, rfl, e4, cl 0, _, _, rfl, a4, (EC.sc 0).xf, EC.n_count, rfl, _, rfl, e4, cl 0, _, _, _, _, rfl, a4, (EC.sc 0).ec, relR, EC.kit 0 0, le_szl 3 (by decide), fun t4 nt4 => ?_⟩
  have tp4 : Trip cl (upd T3 t4 (.tup [.ref e4, v, .bl (decide ((0 : Fin 15) = 0))])) t4 v := ⟨e4, 0, _, upd_self, a4.le (Le.new nt4)⟩
  have m4 := Le.new (H := T3) (o := .tup [.ref e4, v, .bl (decide ((0 : Fin 15) = 0))]) nt4
  generalize upd T3 t4 (.tup [.ref e4, v, .bl (decide ((0 : Fin 15) = 0))]) = T4 at tp4 m4 ⊢
  have a1 := a1.le m4
  have a2 := a2.le m4
  have a3 := a3.le m4
  have a4 := a4.le m4
  have a5 := a5.le m4
  have tp1 := tp1.le m4
  have tp2 := tp2.le m4
  have tp3 := tp3.le m4
  have zp := m4 _ _ zp
  refine ⟨le_szl 2 (by decide), fun q nq => ?_⟩
  have zq : upd T4 q (.lst [.ref t3, .ref t4]) q = some (.lst [.ref t3, .ref t4]) := upd_self
  have mq := Le.new (H := T4) (o := .lst [.ref t3, .ref t4]) nq
  generalize upd T4 q (.lst [.ref t3, .ref t4]) = Lq at zq mq ⊢
  have a1 := a1.le mq
  have a2 := a2.le mq
  have a3 := a3.le mq
  have a4 := a4.le mq
  have a5 := a5.le mq
  have tp1 := tp1.le mq
  have tp2 := tp2.le mq
  have tp3 := tp3.le mq
  have tp4 := tp4.le mq
  have zp := mq _ _ zp
  refine ⟨p, q, _, _, rfl, rfl, zp, zq, le_szl 4 (by decide), fun r nr => ?_⟩
  have zr : upd Lq r (.lst ([V.ref t1, V.ref t2] ++ [V.ref t3, V.ref t4])) r = some (.lst ([V.ref t1, V.ref t2] ++ [V.ref t3, V.ref t4])) := upd_self
  have mr := Le.new (H := Lq) (o := .lst ([V.ref t1, V.ref t2] ++ [V.ref t3, V.ref t4])) nr
  generalize upd Lq r (.lst ([V.ref t1, V.ref t2] ++ [V.ref t3, V.ref t4])) = Lr at zr mr ⊢
  have a1 := a1.le mr
  have a2 := a2.le mr
  have a3 := a3.le mr
  have a4 := a4.le mr
  have a5 := a5.le mr
  have tp1 := tp1.le mr
  have tp2 := tp2.le mr
  have tp3 := tp3.le mr
  have tp4 := tp4.le mr
  refine ⟨_, rfl, ?_⟩
  refine ⟨_, rfl, _, rfl, e5, cl 14, _, _, rfl, a5, (EC.sc 14).xf, EC.n_limit, rfl, _, rfl, e5, cl 14, _, _, _, _, rfl, a5, (EC.sc 14).ec, relR, EC.kit 14 14, le_szl 3 (by decide), fun t5 nt5 => ?_⟩
  have tp5 : Trip cl (upd Lr t5 (.tup [.ref e5, v, .bl (decide ((14 : Fin 15) = 14))])) t5 v := ⟨e5, 14, _, upd_self, a5.le (Le.new nt5)⟩
  have m5 := Le.new (H := Lr) (o := .tup [.ref e5, v, .bl (decide ((14 : Fin 15) = 14))]) nt5
  generalize upd Lr t5 (.tup [.ref e5, v, .bl (decide ((14 : Fin 15) = 14))]) = T5 at tp5 m5 ⊢
  have a1 := a1.le m5
  have a2 := a2.le m5
  have a3 := a3.le m5
  have a4 := a4.le m5
  have a5 := a5.le m5
  have tp1 := tp1.le m5
  have tp2 := tp2.le m5
  have tp3 := tp3.le m5
  have tp4 := tp4.le m5
  have zr := m5 _ _ zr
  refine ⟨le_szl 1 (by decide), fun u nu => ?_⟩
  have zu : upd T5 u (.lst [.ref t5]) u = some (.lst [.ref t5]) := upd_self
  have mu := Le.new (H := T5) (o := .lst [.ref t5]) nu
  generalize upd T5 u (.lst [.ref t5]) = Lu at zu mu ⊢
  have a1 := a1.le mu
  have a2 := a2.le mu
  have a3 := a3.le mu
  have a4 := a4.le mu
  have a5 := a5.le mu
  have tp1 := tp1.le mu
  have tp2 := tp2.le mu
  have tp3 := tp3.le mu
  have tp4 := tp4.le mu
  have tp5 := tp5.le mu
  have zr := mu _ _ zr
  refine ⟨r, u, _, _, rfl, rfl, zr, zu, le_szl 5 (by decide), fun x nx => ?_⟩
  have zx : upd Lu x (.lst (([V.ref t1, V.ref t2] ++ [V.ref t3, V.ref t4]) ++ [V.ref t5])) x = some (.lst (([V.ref t1, V.ref t2] ++ [V.ref t3, V.ref t4]) ++ [V.ref t5])) := upd_self
  have mx := Le.new (H := Lu) (o := .lst (([V.ref t1, V.ref t2] ++ [V.ref t3, V.ref t4]) ++ [V.ref t5])) nx
  generalize upd Lu x (.lst (([V.ref t1, V.ref t2] ++ [V.ref t3, V.ref t4]) ++ [V.ref t5])) = Lx at zx mx ⊢
  have a1 := a1.le mx
  have a2 := a2.le mx
  have a3 := a3.le mx
  have a4 := a4.le mx
  have a5 := a5.le mx
  have tp1 := tp1.le mx
  have tp2 := tp2.le mx
  have tp3 := tp3.le mx
  have tp4 := tp4.le mx
  have tp5 := tp5.le mx
  refine qq x Lx [t1, t2, t3, t4, t5] (((((((((((le5.trans m1).trans m2).trans mp).trans m3).trans m4).trans mq).trans mr).trans m5).trans mu).trans mx)) zx fun t ht => ?_
  simp only [List.mem_cons, List.not_mem_nil, or_false] at ht
  rcases ht with rfl | rfl | rfl | rfl | rfl
  · exact tp1
  · exact tp2
  · exact tp3
  · exact tp4
  · exact tp5
theorem c_named (T : Txt K mg) (EC : ErrC K mg cl ow) (F : DefOf K mg "_law_named" s__law_named P__law_named) (O_NoChain : OMk P w K mg base 1 "NoChain" (cl 7) (sp_err (cl 7) "name" isStr9)) (O_BadName : OMk P w K mg base 1 "BadName" (cl 3) (sp_err (cl 3) "name" isStr9)) (O_NoWalker : OMk P w K mg base 1 "NoWalker" (cl 11) (sp_err (cl 11) "name" isStr9)) (O_Taken : OMk P w K mg base 1 "Taken" (cl 13) (sp_err (cl 13) "name" isStr9)) (O_NoPromise : OMk P w K mg base 1 "NoPromise" (cl 8) (sp_err (cl 8) "name" isStr9)) : Cal P w K mg base 3 "_law_named" (sp_five cl isStr9) [] := by
  obtain ⟨f, fd, F, B⟩ := F
  refine cal0 F B .nil sc__law_named (fun vs H Q E h => by obtain ⟨_, rfl, _⟩ := h; rfl) (fun cdv A outer s H vs Q E hr h => ?_)
  obtain ⟨v, rfl, hv, qq⟩ := h
  have nd := sc__law_named.nd
  refine ⟨_, (pss_cons (L2.ps_par3 (i := 1) (j := 2) (l := 3) (by rfl) nd rfl rfl rfl (by decide) (by decide) (by decide) rfl rfl rfl (pa_cons (pe_mkV O_NoChain (hr.mono (by decide)) rfl (pa_cons (pv 0) pa_nil)) (pa_cons (pe_mkV O_BadName (hr.mono (by decide)) rfl (pa_cons (pv 0) pa_nil)) (pa_cons (pe_mkV O_NoWalker (hr.mono (by decide)) rfl (pa_cons (pv 0) pa_nil)) pa_nil))) (by rfl))
      (pss_cons (ps_par (i := 4) (j := 5) (by rfl) nd rfl rfl (by decide) rfl rfl (pa_cons (pe_mkV O_Taken (hr.mono (by decide)) rfl (pa_cons (pv 0) pa_nil)) (pa_cons (pe_mkV O_NoPromise (hr.mono (by decide)) rfl (pa_cons (pv 0) pa_nil)) pa_nil)) (by rfl))
      (pss_cons (ps_set (i := 6) nd rfl (Or.inl rfl) (pe_lst (pa_cons (pe_tup (pa_cons (pv 1) (pa_cons (pe_exf (pv 1)) (pa_cons (pe_callB call_isX (by rfl) T.b_isinstance (by decide +kernel) (pa_cons (pv 1) (pa_cons (pe_gc rfl EC.g_NoChain) pa_nil))) pa_nil)))) (pa_cons (pe_tup (pa_cons (pv 2) (pa_cons (pe_exf (pv 2)) (pa_cons (pe_callB call_isX (by rfl) T.b_isinstance (by decide +kernel) (pa_cons (pv 2) (pa_cons (pe_gc rfl EC.g_BadName) pa_nil))) pa_nil)))) pa_nil))))
      (pss_cons (ps_set (i := 6) nd rfl (Or.inl rfl) (pe_op op_cat (pv 6) (pe_lst (pa_cons (pe_tup (pa_cons (pv 3) (pa_cons (pe_exf (pv 3)) (pa_cons (pe_callB call_isX (by rfl) T.b_isinstance (by decide +kernel) (pa_cons (pv 3) (pa_cons (pe_gc rfl EC.g_NoWalker) pa_nil))) pa_nil)))) (pa_cons (pe_tup (pa_cons (pv 4) (pa_cons (pe_exf (pv 4)) (pa_cons (pe_callB call_isX (by rfl) T.b_isinstance (by decide +kernel) (pa_cons (pv 4) (pa_cons (pe_gc rfl EC.g_Taken) pa_nil))) pa_nil)))) pa_nil)))))
      (pss_one (ps_ret (pe_op op_cat (pv 6) (pe_lst (pa_cons (pe_tup (pa_cons (pv 5) (pa_cons (pe_exf (pv 5)) (pa_cons (pe_callB call_isX (by rfl) T.b_isinstance (by decide +kernel) (pa_cons (pv 5) (pa_cons (pe_gc rfl EC.g_NoPromise) pa_nil))) pa_nil)))) pa_nil))))))))), ?_⟩
  refine ⟨_, rfl, show 1 ≤ 1000 by decide, fun e1 na1 => ⟨e1, _, rfl, hv, upd_self, fun H1 lx1 _ a1 => ⟨rfl, ?_⟩⟩⟩
  have l1 := mk_le na1 lx1
  refine ⟨_, rfl, show 1 ≤ 1000 by decide, fun e2 na2 => ⟨e2, _, rfl, hv, upd_self, fun H2 lx2 _ a2 => ⟨rfl, ?_⟩⟩⟩
  have l2 := mk_le na2 lx2
  have a1 := a1.le l2
  refine ⟨_, rfl, show 1 ≤ 1000 by decide, fun e3 na3 => ⟨e3, _, rfl, hv, upd_self, fun H3 lx3 _ a3 => ⟨rfl, ?_⟩⟩⟩
  have l3 := mk_le na3 lx3
  have a1 := a1.le l3
  have a2 := a2.le l3
  refine ⟨_, _, _, rfl, ?_⟩
  refine ⟨_, rfl, show 1 ≤ 1000 by decide, fun e4 na4 => ⟨e4, _, rfl, hv, upd_self, fun H4 lx4 _ a4 => ⟨rfl, ?_⟩⟩⟩
  have l4 := mk_le na4 lx4
  have a1 := a1.le l4
  have a2 := a2.le l4
  have a3 := a3.le l4
  refine ⟨_, rfl, show 1 ≤ 1000 by decide, fun e5 na5 => ⟨e5, _, rfl, hv, upd_self, fun H5 lx5 _ a5 => ⟨rfl, ?_⟩⟩⟩
  have l5 := mk_le na5 lx5
  have a1 := a1.le l5
  have a2 := a2.le l5
  have a3 := a3.le l5
  have a4 := a4.le l5
  refine ⟨_, _, rfl, ?_⟩
  have le5 : Le H H5 := (((l1.trans l2).trans l3).trans l4).trans l5
  refine ⟨_, rfl, _, rfl, e1, cl 7, _, _, rfl, a1, (EC.sc 7).xf, EC.n_name7, rfl, _, rfl, e1, cl 7, _, _, _, _, rfl, a1, (EC.sc 7).ec, relR, EC.kit 7 7, le_szl 3 (by decide), fun t1 nt1 => ?_⟩
  have tp1 : Trip cl (upd H5 t1 (.tup [.ref e1, v, .bl (decide ((7 : Fin 15) = 7))])) t1 v := ⟨e1, 7, _, upd_self, a1.le (Le.new nt1)⟩
  have m1 := Le.new (H := H5) (o := .tup [.ref e1, v, .bl (decide ((7 : Fin 15) = 7))]) nt1
  generalize upd H5 t1 (.tup [.ref e1, v, .bl (decide ((7 : Fin 15) = 7))]) = T1 at tp1 m1 ⊢
  have a1 := a1.le m1
  have a2 := a2.le m1
  have a3 := a3.le m1
  have a4 := a4.le m1
  have a5 := a5.le m1
  refine ⟨_, rfl, _, rfl, e2, cl 3, _, _, rfl, a2, (EC.sc 3).xf, EC.n_name3, rfl, _, rfl, e2, cl 3, _, _, _, _, rfl, a2, (EC.sc 3).ec, relR, EC.kit 3 3, le_szl 3 (by decide), fun t2 nt2 => ?_⟩
  have tp2 : Trip cl (upd T1 t2 (.tup [.ref e2, v, .bl (decide ((3 : Fin 15) = 3))])) t2 v := ⟨e2, 3, _, upd_self, a2.le (Le.new nt2)⟩
  have m2 := Le.new (H := T1) (o := .tup [.ref e2, v, .bl (decide ((3 : Fin 15) = 3))]) nt2
  generalize upd T1 t2 (.tup [.ref e2, v, .bl (decide ((3 : Fin 15) = 3))]) = T2 at tp2 m2 ⊢
  have a1 := a1.le m2
  have a2 := a2.le m2
  have a3 := a3.le m2
  have a4 := a4.le m2
  have a5 := a5.le m2
  have tp1 := tp1.le m2
  refine ⟨le_szl 2 (by decide), fun p np => ?_⟩
  have zp : upd T2 p (.lst [.ref t1, .ref t2]) p = some (.lst [.ref t1, .ref t2]) := upd_self
  have mp := Le.new (H := T2) (o := .lst [.ref t1, .ref t2]) np
  generalize upd T2 p (.lst [.ref t1, .ref t2]) = Lp at zp mp ⊢
  have a1 := a1.le mp
  have a2 := a2.le mp
  have a3 := a3.le mp
  have a4 := a4.le mp
  have a5 := a5.le mp
  have tp1 := tp1.le mp
  have tp2 := tp2.le mp
  refine ⟨_, rfl, ?_⟩
  refine ⟨_, rfl, _, rfl, e3, cl 11, _, _, rfl, a3, (EC.sc 11).xf, EC.n_name11, rfl, _, rfl, e3, cl 11, _, _, _, _, rfl, a3, (EC.sc 11).ec, relR, EC.kit 11 11, le_szl 3 (by decide), fun t3 nt3 => ?_⟩
  have tp3 : Trip cl (upd Lp t3 (.tup [.ref e3, v, .bl (decide ((11 : Fin 15) = 11))])) t3 v := ⟨e3, 11, _, upd_self, a3.le (Le.new nt3)⟩
  have m3 := Le.new (H := Lp) (o := .tup [.ref e3, v, .bl (decide ((11 : Fin 15) = 11))]) nt3
  generalize upd Lp t3 (.tup [.ref e3, v, .bl (decide ((11 : Fin 15) = 11))]) = T3 at tp3 m3 ⊢
  have a1 := a1.le m3
  have a2 := a2.le m3
  have a3 := a3.le m3
  have a4 := a4.le m3
  have a5 := a5.le m3
  have tp1 := tp1.le m3
  have tp2 := tp2.le m3
  have zp := m3 _ _ zp
  refine ⟨_, rfl, _, rfl, e4, cl 13, _, _, rfl, a4, (EC.sc 13).xf, EC.n_name13, rfl, _, rfl, e4, cl 13, _, _, _, _, rfl, a4, (EC.sc 13).ec, relR, EC.kit 13 13, le_szl 3 (by decide), fun t4 nt4 => ?_⟩
  have tp4 : Trip cl (upd T3 t4 (.tup [.ref e4, v, .bl (decide ((13 : Fin 15) = 13))])) t4 v := ⟨e4, 13, _, upd_self, a4.le (Le.new nt4)⟩
  have m4 := Le.new (H := T3) (o := .tup [.ref e4, v, .bl (decide ((13 : Fin 15) = 13))]) nt4
  generalize upd T3 t4 (.tup [.ref e4, v, .bl (decide ((13 : Fin 15) = 13))]) = T4 at tp4 m4 ⊢
  have a1 := a1.le m4
  have a2 := a2.le m4
  have a3 := a3.le m4
  have a4 := a4.le m4
  have a5 := a5.le m4
  have tp1 := tp1.le m4
  have tp2 := tp2.le m4
  have tp3 := tp3.le m4
  have zp := m4 _ _ zp
  refine ⟨le_szl 2 (by decide), fun q nq => ?_⟩
  have zq : upd T4 q (.lst [.ref t3, .ref t4]) q = some (.lst [.ref t3, .ref t4]) := upd_self
  have mq := Le.new (H := T4) (o := .lst [.ref t3, .ref t4]) nq
  generalize upd T4 q (.lst [.ref t3, .ref t4]) = Lq at zq mq ⊢
  have a1 := a1.le mq
  have a2 := a2.le mq
  have a3 := a3.le mq
  have a4 := a4.le mq
  have a5 := a5.le mq
  have tp1 := tp1.le mq
  have tp2 := tp2.le mq
  have tp3 := tp3.le mq
  have tp4 := tp4.le mq
  have zp := mq _ _ zp
  refine ⟨p, q, _, _, rfl, rfl, zp, zq, le_szl 4 (by decide), fun r nr => ?_⟩
  have zr : upd Lq r (.lst ([V.ref t1, V.ref t2] ++ [V.ref t3, V.ref t4])) r = some (.lst ([V.ref t1, V.ref t2] ++ [V.ref t3, V.ref t4])) := upd_self
  have mr := Le.new (H := Lq) (o := .lst ([V.ref t1, V.ref t2] ++ [V.ref t3, V.ref t4])) nr
  generalize upd Lq r (.lst ([V.ref t1, V.ref t2] ++ [V.ref t3, V.ref t4])) = Lr at zr mr ⊢
  have a1 := a1.le mr
  have a2 := a2.le mr
  have a3 := a3.le mr
  have a4 := a4.le mr
  have a5 := a5.le mr
  have tp1 := tp1.le mr
  have tp2 := tp2.le mr
  have tp3 := tp3.le mr
  have tp4 := tp4.le mr
  refine ⟨_, rfl, ?_⟩
  refine ⟨_, rfl, _, rfl, e5, cl 8, _, _, rfl, a5, (EC.sc 8).xf, EC.n_name8, rfl, _, rfl, e5, cl 8, _, _, _, _, rfl, a5, (EC.sc 8).ec, relR, EC.kit 8 8, le_szl 3 (by decide), fun t5 nt5 => ?_⟩
  have tp5 : Trip cl (upd Lr t5 (.tup [.ref e5, v, .bl (decide ((8 : Fin 15) = 8))])) t5 v := ⟨e5, 8, _, upd_self, a5.le (Le.new nt5)⟩
  have m5 := Le.new (H := Lr) (o := .tup [.ref e5, v, .bl (decide ((8 : Fin 15) = 8))]) nt5
  generalize upd Lr t5 (.tup [.ref e5, v, .bl (decide ((8 : Fin 15) = 8))]) = T5 at tp5 m5 ⊢
  have a1 := a1.le m5
  have a2 := a2.le m5
  have a3 := a3.le m5
  have a4 := a4.le m5
  have a5 := a5.le m5
  have tp1 := tp1.le m5
  have tp2 := tp2.le m5
  have tp3 := tp3.le m5
  have tp4 := tp4.le m5
  have zr := m5 _ _ zr
  refine ⟨le_szl 1 (by decide), fun u nu => ?_⟩
  have zu : upd T5 u (.lst [.ref t5]) u = some (.lst [.ref t5]) := upd_self
  have mu := Le.new (H := T5) (o := .lst [.ref t5]) nu
  generalize upd T5 u (.lst [.ref t5]) = Lu at zu mu ⊢
  have a1 := a1.le mu
  have a2 := a2.le mu
  have a3 := a3.le mu
  have a4 := a4.le mu
  have a5 := a5.le mu
  have tp1 := tp1.le mu
  have tp2 := tp2.le mu
  have tp3 := tp3.le mu
  have tp4 := tp4.le mu
  have tp5 := tp5.le mu
  have zr := mu _ _ zr
  refine ⟨r, u, _, _, rfl, rfl, zr, zu, le_szl 5 (by decide), fun x nx => ?_⟩
  have zx : upd Lu x (.lst (([V.ref t1, V.ref t2] ++ [V.ref t3, V.ref t4]) ++ [V.ref t5])) x = some (.lst (([V.ref t1, V.ref t2] ++ [V.ref t3, V.ref t4]) ++ [V.ref t5])) := upd_self
  have mx := Le.new (H := Lu) (o := .lst (([V.ref t1, V.ref t2] ++ [V.ref t3, V.ref t4]) ++ [V.ref t5])) nx
  generalize upd Lu x (.lst (([V.ref t1, V.ref t2] ++ [V.ref t3, V.ref t4]) ++ [V.ref t5])) = Lx at zx mx ⊢
  have a1 := a1.le mx
  have a2 := a2.le mx
  have a3 := a3.le mx
  have a4 := a4.le mx
  have a5 := a5.le mx
  have tp1 := tp1.le mx
  have tp2 := tp2.le mx
  have tp3 := tp3.le mx
  have tp4 := tp4.le mx
  have tp5 := tp5.le mx
  refine qq x Lx [t1, t2, t3, t4, t5] (((((((((((le5.trans m1).trans m2).trans mp).trans m3).trans m4).trans mq).trans mr).trans m5).trans mu).trans mx)) zx fun t ht => ?_
  simp only [List.mem_cons, List.not_mem_nil, or_false] at ht
  rcases ht with rfl | rfl | rfl | rfl | rfl
  · exact tp1
  · exact tp2
  · exact tp3
  · exact tp4
  · exact tp5
def sp_others : Sp := fun vs H Q _ => ∃ (d dl : Addr) (n : Int), vs = [.ref d] ∧ IsPen H d dl n ∧ n ≤ 700000000 ∧ ∀ H', LeX d H H' → IsPen H' d dl (n + 101) → Q (.bl true) H'
theorem c_others (T : Txt K mg) (EC : ErrC K mg cl ow) (F : DefOf K mg "_law_others_right" s__law_others_right P__law_others_right) (C__law_draw : Cal P w K mg base 1 "_law_draw" sp_draw []) (C__law_names : Cal P w K mg base 3 "_law_names" sp_names []) (C__law_is_one : Cal P w K mg base 2 "_law_is_one" (sp_isone cl) [])
    (O_Barred : OMk P w K mg base 1 "Barred" (cl 5) (sp_errL K (cl 5))) (O_OtherMap : OMk P w K mg base 1 "OtherMap" (cl 12) (sp_err0 (cl 12))) (O_Endless : OMk P w K mg base 1 "Endless" (cl 6) (sp_err0 (cl 6))) (O_NotOneTerm : OMk P w K mg base 1 "NotOneTerm" (cl 9) (sp_err0 (cl 9))) (O_NothingToUndo : OMk P w K mg base 1 "NothingToUndo" (cl 10) (sp_err0 (cl 10))) :
    Cal P w K mg base 4 "_law_others_right" sp_others [] := by
  obtain ⟨f, fd, F, B⟩ := F
  refine cal0 F B .nil sc__law_others_right (fun vs H Q E h => by obtain ⟨_, _, _, rfl, _⟩ := h; rfl) (fun cdv A outer s H vs Q E hr h => ?_)
  obtain ⟨d, dl, n, rfl, pn, n1, qq⟩ := h
  have nd := sc__law_others_right.nd
  refine ⟨_, (pss_cons (ps_set (i := 1) nd rfl (Or.inl rfl) (pe_c C__law_names hr (by decide) rfl (pa_cons (pv 0) (pa_cons (pe_c C__law_draw hr (by decide) rfl (pa_cons (pv 0) (pa_cons pe_int pa_nil))) pa_nil))))
      (pss_cons (L2.ps_par3 (i := 2) (j := 3) (l := 4) (by rfl) nd rfl rfl rfl (by decide) (by decide) (by decide) rfl rfl rfl (pa_cons (pe_mkV O_Barred (hr.mono (by decide)) rfl (pa_cons (pe_callTy call_list_of (by rfl) T.b_list (by decide +kernel) (pa_cons (pv 1) pa_nil)) pa_nil)) (pa_cons (pe_mkV0 O_OtherMap (hr.mono (by decide)) rfl) (pa_cons (pe_mkV0 O_Endless (hr.mono (by decide)) rfl) pa_nil))) (by rfl))
      (pss_cons (ps_par (i := 5) (j := 6) (by rfl) nd rfl rfl (by decide) rfl rfl (pa_cons (pe_mkV0 O_NotOneTerm (hr.mono (by decide)) rfl) (pa_cons (pe_mkV0 O_NothingToUndo (hr.mono (by decide)) rfl) pa_nil)) (by rfl))
      (C8.pss_cut (ps_set (i := 7) nd rfl (Or.inl rfl) (pe_and (pe_cmpR (op_eqD hr.units) (pe_exf (pv 2)) (pv 1) (nomark _)) (pe_one (pe_c C__law_is_one hr (by decide) rfl (pa_cons (pv 2) (pa_cons (pe_callB call_isX (by rfl) T.b_isinstance (by decide +kernel) (pa_cons (pv 2) (pa_cons (pe_gc rfl EC.g_Barred) pa_nil))) pa_nil))))))
      (C8.pss_cut (ps_set (i := 7) nd rfl (Or.inl rfl) (pe_and (pv 7) (pe_one (pe_c C__law_is_one hr (by decide) rfl (pa_cons (pv 3) (pa_cons (pe_callB call_isX (by rfl) T.b_isinstance (by decide +kernel) (pa_cons (pv 3) (pa_cons (pe_gc rfl EC.g_OtherMap) pa_nil))) pa_nil))))))
      (C8.pss_cut (ps_set (i := 7) nd rfl (Or.inl rfl) (pe_and (pv 7) (pe_and (pe_c C__law_is_one hr (by decide) rfl (pa_cons (pv 4) (pa_cons (pe_callB call_isX (by rfl) T.b_isinstance (by decide +kernel) (pa_cons (pv 4) (pa_cons (pe_gc rfl EC.g_Endless) pa_nil))) pa_nil))) (pe_one (pe_c C__law_is_one hr (by decide) rfl (pa_cons (pv 5) (pa_cons (pe_callB call_isX (by rfl) T.b_isinstance (by decide +kernel) (pa_cons (pv 5) (pa_cons (pe_gc rfl EC.g_NotOneTerm) pa_nil))) pa_nil)))))))
      (pss_one (ps_ret (pe_and (pv 7) (pe_one (pe_c C__law_is_one hr (by decide) rfl (pa_cons (pv 6) (pa_cons (pe_callB call_isX (by rfl) T.b_isinstance (by decide +kernel) (pa_cons (pv 6) (pa_cons (pe_gc rfl EC.g_NothingToUndo) pa_nil))) pa_nil))))))))))))), ?_⟩
  refine ⟨_, rfl, _, rfl, d, dl, 6, n, rfl, pn, by omega, by decide, lg9 6 (by decide) (by decide), fun r0 H1 l1 p1 r00 r01 => ?_⟩
  refine ⟨d, dl, n + 1, r0.toNat, by rw [Int.toNat_of_nonneg r00]; rfl, p1, by omega, by omega, fun q r H2 l2 p2 nq hrow good rlen rlen2 => ?_⟩
  have nm : ∀ z ∈ r, Nm z := fun z hz => (good.2 z hz).1
  refine ⟨_, rfl, q, _, rfl, .inl (.of hrow), fun l nl => ?_⟩
  have ml := Le.new (H := H2) (o := .lst (r.map V.str)) nl
  have zl : upd H2 l (.lst (r.map V.str)) l = some (.lst (r.map V.str)) := upd_self
  generalize upd H2 l (.lst (r.map V.str)) = L0 at ml zl ⊢
  refine ⟨show 1 ≤ 1000 by decide, fun e1 na1 => ⟨e1, l, r.map V.str, rfl, .of ((Le.new na1) _ _ zl), by rw [List.length_map]; omega, upd_self, fun L1 q3 lx1 _ _ _ z3 a1 => ⟨rfl, ?_⟩⟩⟩
  have m1 := mk_le na1 lx1
  refine ⟨Nat.zero_le _, fun e2 na2 => ⟨e2, rfl, upd_self, fun a2 => ⟨rfl, ?_⟩⟩⟩
  have m2 := Le.new (H := L1) (o := exo e2 (cl 12) none) na2
  generalize upd L1 e2 (exo e2 (cl 12) none) = L2 at m2 a2 ⊢
  refine ⟨Nat.zero_le _, fun e3 na3 => ⟨e3, rfl, upd_self, fun a3 => ⟨rfl, ?_⟩⟩⟩
  have m3 := Le.new (H := L2) (o := exo e3 (cl 6) none) na3
  generalize upd L2 e3 (exo e3 (cl 6) none) = L3 at m3 a3 ⊢
  refine ⟨_, _, _, rfl, ?_⟩
  refine ⟨Nat.zero_le _, fun e4 na4 => ⟨e4, rfl, upd_self, fun a4 => ⟨rfl, ?_⟩⟩⟩
  have m4 := Le.new (H := L3) (o := exo e4 (cl 9) none) na4
  generalize upd L3 e4 (exo e4 (cl 9) none) = L4 at m4 a4 ⊢
  refine ⟨Nat.zero_le _, fun e5 na5 => ⟨e5, rfl, upd_self, fun a5 => ⟨rfl, ?_⟩⟩⟩
  have m5 := Le.new (H := L4) (o := exo e5 (cl 10) none) na5
  generalize upd L4 e5 (exo e5 (cl 10) none) = L5 at m5 a5 ⊢
  refine ⟨_, _, rfl, ?_⟩
  have a4 := a4.le m5
  have a3 := (a3.le m4).le m5
  have a2 := ((a2.le m3).le m4).le m5
  have a1 := (((a1.le m2).le m3).le m4).le m5
  have mm : Le L1 L5 := ((m2.trans m3).trans m4).trans m5
  have ma : Le H2 L5 := (ml.trans m1).trans mm
  have hrow5 : IsRow L5 q r := ma _ _ hrow
  have z5 : IsRow L5 q3 r := mm _ _ z3
  -- names
  refine ⟨fun σ' H' => L5 = H' ∧ σ' = [some (.ref d), some (.ref q), some (.ref e1), some (.ref e2), some (.ref e3), some (.ref e4), some (.ref e5), some (.bl true)], ?_, ?_⟩
  · refine ⟨_, rfl, e1, cl 5, _, _, rfl, a1, (EC.sc 5).xf, EC.n_names, rfl, _, rfl, _, _, dp_row z5, dp_row hrow5, shaped_row nm, shaped_row nm, _, rfl, ?_⟩
    rw [eqv_row, decide_eq_true rfl]
    refine iteT ?_
    refine ⟨_, rfl, _, rfl, e1, cl 5, _, _, _, _, rfl, a1, (EC.sc 5).ec, relR, EC.kit 5 5, e1, 5, _, rfl, a1, ?_⟩
    exact ⟨rfl, rfl⟩
  rintro σ' H' ⟨rfl, rfl⟩
  refine ⟨fun σ' H' => L5 = H' ∧ σ' = [some (.ref d), some (.ref q), some (.ref e1), some (.ref e2), some (.ref e3), some (.ref e4), some (.ref e5), some (.bl true)], ?_, ?_⟩
  · refine ⟨_, rfl, _, rfl, iteT ?_⟩
    refine ⟨_, rfl, _, rfl, e2, cl 12, _, _, _, _, rfl, a2, (EC.sc 12).ec, relR, EC.kit 12 12, e2, 12, _, rfl, a2, ?_⟩
    exact ⟨rfl, rfl⟩
  rintro σ' H' ⟨rfl, rfl⟩
  refine ⟨fun σ' H' => L5 = H' ∧ σ' = [some (.ref d), some (.ref q), some (.ref e1), some (.ref e2), some (.ref e3), some (.ref e4), some (.ref e5), some (.bl true)], ?_, ?_⟩
  · refine ⟨_, rfl, _, rfl, iteT ?_⟩
    refine ⟨_, rfl, _, rfl, e3, cl 6, _, _, _, _, rfl, a3, (EC.sc 6).ec, relR, EC.kit 6 6, e3, 6, _, rfl, a3, ?_⟩
    refine ⟨_, rfl, iteT ?_⟩
    refine ⟨_, rfl, _, rfl, e4, cl 9, _, _, _, _, rfl, a4, (EC.sc 9).ec, relR, EC.kit 9 9, e4, 9, _, rfl, a4, ?_⟩
    exact ⟨rfl, rfl⟩
  rintro σ' H' ⟨rfl, rfl⟩
  refine ⟨_, rfl, _, rfl, iteT ?_⟩
  refine ⟨_, rfl, _, rfl, e5, cl 10, _, _, _, _, rfl, a5, (EC.sc 10).ec, relR, EC.kit 10 10, e5, 10, _, rfl, a5, ?_⟩
  refine qq _ (fun b o hb h => ma _ _ (l2 b o hb (l1 b o hb h))) ((p2.le ma).mono (by omega))
def sp_law : Sp := fun vs H Q _ => ∃ (a : Addr) (xs : List Int), vs = [.ref a] ∧ SqL K H a (xs.map V.int) ∧ xs.length ≤ 63 ∧ ∀ H', Q (.bl true) H'
theorem big_log {z : Int} (h1 : -3 ≤ z) (h2 : z < 10 ^ 60) : z.natAbs.log2 < 1900 := by
  by_cases c : z.natAbs = 0
  · rw [c]; decide
  · rw [Nat.log2_lt c]
    refine Nat.lt_of_lt_of_le (show z.natAbs < 2 ^ 200 from ?_) (Nat.pow_le_pow_right (by decide) (by decide))
    have : z.natAbs < 10 ^ 60 := by omega
    exact Nat.lt_of_lt_of_le this (by decide)
theorem nm_repr {z : Str} (h : Nm z) : (PySem.reprText z).length ≤ sizeLine := by
  have e := PySem.StrLaws.reprText_len z fun c hc => Nat.lt_of_le_of_lt (h.1 c hc).2 (by decide)
  have := h.2
  exact Nat.le_trans e (le_szl _ (by omega))
theorem ok_law {f : Addr} {fd : FuncData} (T : Txt K mg) (EC : ErrC K mg cl ow) (F : C8.Fun K "law" "law" s_law f fd) (C__law_pen : Cal P w K mg base 1 "_law_pen" (sp_pen (K := K)) []) (C__law_draw : Cal P w K mg base 1 "_law_draw" sp_draw [])
    (C__law_names : Cal P w K mg base 3 "_law_names" sp_names []) (C__law_numbered : Cal P w K mg base 3 "_law_numbered" (sp_five cl isInt9) []) (C__law_named : Cal P w K mg base 3 "_law_named" (sp_five cl isStr9) []) (C__law_is_one : Cal P w K mg base 2 "_law_is_one" (sp_isone cl) [])
    (C__law_others_right : Cal P w K mg base 4 "_law_others_right" sp_others []) : FnOk P w K mg base C8.CX0 5 f fd P_law (sp_law (K := K)) := by
  refine fn0 F sc_law (fun vs H Q E h => by obtain ⟨_, _, rfl, _⟩ := h; rfl) (fun cdv A outer s H vs Q E hr h => ?_)
  obtain ⟨a, xs, rfl, hs, hx, qq⟩ := h
  have nd := sc_law.nd
  refine ⟨_, (pss_cons (ps_set (i := 1) nd rfl (Or.inl rfl) (pe_c C__law_pen hr (by decide) rfl (pa_cons (pv 0) pa_nil)))
      (C8.pss_cut (ps_for PassesOwn.never rfl (pi_range1 (by rfl) T.b_range (pa_cons pe_int pa_nil)) (pg_name (i := 2) nd rfl (Or.inl rfl)) (pss_cons (ps_par (i := 3) (j := 4) (by rfl) nd rfl rfl (by decide) rfl rfl (pa_cons (pe_op op_sub (pe_c C__law_draw hr (by decide) rfl (pa_cons (pv 1) (pa_cons (pe_op op_pow pe_int pe_int) pa_nil))) (pv 2)) (pa_cons (pe_ix ix_list (pe_c C__law_names hr (by decide) rfl (pa_cons (pv 1) (pa_cons pe_int pa_nil))) pe_int (fun _ _ => rfl)) pa_nil)) (by rfl))
      (C8.pss_cut (ps_for PassesOwn.never rfl (pi_list (pe_c C__law_numbered hr (by decide) rfl (pa_cons (pv 3) pa_nil))) (pg_tup rfl (pgs_cons (pg_name (i := 5) nd rfl (Or.inl rfl)) (pgs_cons (pg_name (i := 6) nd rfl (Or.inl rfl)) (pgs_cons (pg_name (i := 7) nd rfl (Or.inl rfl)) pgs_nil)))) (pss_one (ps_if (PW.pt (pw_or (pt_cmpR op_ne (pe_callB call_reprF (by rfl) T.b_repr (by decide +kernel) (pa_cons (pv 6) pa_nil)) (pe_callB SkE.call_repr_int (by rfl) T.b_repr (by decide +kernel) (pa_cons (pv 3) pa_nil)) (nomark _)) (pw_or1 (pt_not (pt_val (pe_c C__law_is_one hr (by decide) rfl (pa_cons (pv 5) (pa_cons (pv 7) pa_nil)))))))) (pss_one (ps_ret pe_bl)) pss_nil)))
      (C8.pss_cut (ps_for PassesOwn.never rfl (pi_list (pe_c C__law_named hr (by decide) rfl (pa_cons (pv 4) pa_nil))) (pg_tup rfl (pgs_cons (pg_name (i := 5) nd rfl (Or.inl rfl)) (pgs_cons (pg_name (i := 6) nd rfl (Or.inl rfl)) (pgs_cons (pg_name (i := 7) nd rfl (Or.inl rfl)) pgs_nil)))) (pss_one (ps_if (PW.pt (pw_or (pt_cmpR op_ne (pe_callB call_reprF (by rfl) T.b_repr (by decide +kernel) (pa_cons (pv 6) pa_nil)) (pe_callB call_reprF (by rfl) T.b_repr (by decide +kernel) (pa_cons (pv 4) pa_nil)) (nomark _)) (pw_or1 (pt_not (pt_val (pe_c C__law_is_one hr (by decide) rfl (pa_cons (pv 5) (pa_cons (pv 7) pa_nil)))))))) (pss_one (ps_ret pe_bl)) pss_nil)))
      (pss_one (ps_if (pt_not (pt_val (pe_c C__law_others_right hr (by decide) rfl (pa_cons (pv 1) pa_nil)))) (pss_one (ps_ret pe_bl)) pss_nil))))))
      (pss_one (ps_ret pe_bl)))), ?_⟩
  refine ⟨_, rfl, a, xs, rfl, hs, hx, fun d dl H1 l1 hd hdl p1 => ?_⟩
  refine ⟨fun _ _ => True, ?_, fun _ _ _ => qq _⟩
  refine ⟨_, rfl, by decide, by decide, ?_⟩
  refine for_range (n := 3) (fun i σ' H' => IsPen H' d dl (i * 1000) ∧ ∃ x2 x3 x4 x5 x6 x7, σ' = [some (.ref a), some (.ref d), x2, x3, x4, x5, x6, x7]) ⟨p1.mono (by decide), none, none, none, none, none, none, rfl⟩ ?_ (fun _ _ _ => trivial)
  rintro i σ Ha hi ⟨pa, x2, x3, x4, x5, x6, x7, rfl⟩
  -- number, text
  refine ⟨_, rfl, _, _, rfl, rfl, ⟨by decide, by decide, by decide⟩, d, dl, 10 ^ 60, _, rfl, pa, by omega, by decide, by decide +kernel, fun num H2 l2 p2 u0 u1 => ?_⟩
  refine ⟨_, rfl, _, _, rfl, rfl, ?_⟩
  refine ⟨_, rfl, d, dl, _, 1, rfl, p2, by omega, by decide, fun q r H3 l3 p3 nq hrow good rlen rlen2 => ?_⟩
  obtain ⟨z, rfl⟩ : ∃ z, r = [z] := List.length_eq_one_iff.mp (rlen2 (by decide))
  have nmz : Nm z := (good.2 z (by simp)).1
  refine ⟨q, _, _, _, rfl, rfl, .of hrow, atI_nat (j := 0) rfl, ?_⟩
  refine ⟨_, _, rfl, ?_⟩
  have hlog : (num - (0 + (i : Nat))).natAbs.log2 < 1900 := big_log (by omega) (by omega)
  -- the numbered ones
  refine ⟨fun σ' H' => IsPen H' d dl (i * 1000 + 101) ∧ ∃ x5 x6 x7, σ' = [some (.ref a), some (.ref d), some (.int (0 + (i : Nat))), some (.int (num - (0 + (i : Nat)))), some (.str z), x5, x6, x7], ?_, ?_⟩
  · refine ⟨_, rfl, _, rfl, ⟨_, rfl, hlog⟩, fun q1 H4 ts l4 e4 tr => ?_⟩
    refine ⟨_, rfl, ⟨_, .of e4⟩, ?_⟩
    refine for_list (xs := ts.map V.ref) (fun j σ' H' => H' q1 = some (.lst (ts.map V.ref)) ∧ (∀ t ∈ ts, Trip cl H' t (.int (num - (0 + (i : Nat))))) ∧ IsPen H' d dl (i * 1000 + 101) ∧ ∃ x5 x6 x7, σ' = [some (.ref a), some (.ref d), some (.int (0 + (i : Nat))), some (.int (num - (0 + (i : Nat)))), some (.str z), x5, x6, x7])
      ⟨e4, tr, (p3.le l4).mono (by omega), x5, x6, x7, rfl⟩ (fun _ _ _ _ h => .of h.1) ?_ (fun σ H h => h.2.2)
    rintro j x σ H5 hx5 ⟨e5, tr5, p5, x5, x6, x7, rfl⟩
    rw [List.getElem?_map] at hx5
    cases hj : ts[j]? with
    | none => rw [hj] at hx5; cases hx5
    | some t =>
      rw [hj] at hx5
      cases hx5
      obtain ⟨e, ii, fs, ht, ea⟩ := tr5 t (List.mem_of_getElem? hj)
      refine ⟨t, _, rfl, .of ht, rfl, _, _, rfl, _, _, rfl, _, _, rfl, rfl, ?_⟩
      refine ⟨_, rfl, _, _, rfl, .int _ (by omega), ?_⟩
      refine ⟨_, rfl, _, rfl, by omega, ?_⟩
      refine ⟨rfl, _, rfl, ?_⟩
      refine iteNS rfl ?_
      refine ⟨_, rfl, _, rfl, e, ii, fs, rfl, ea, _, rfl, ?_⟩
      refine iteF ?_
      exact ⟨e5, tr5, p5, _, _, _, rfl⟩
  rintro σ H4 ⟨p4, x5, x6, x7, rfl⟩
  refine ⟨fun σ' H' => IsPen H' d dl (i * 1000 + 101) ∧ ∃ x5 x6 x7, σ' = [some (.ref a), some (.ref d), some (.int (0 + (i : Nat))), some (.int (num - (0 + (i : Nat)))), some (.str z), x5, x6, x7], ?_, ?_⟩
  · refine ⟨_, rfl, _, rfl, ⟨_, rfl, by have := nmz.2; omega⟩, fun q1 H5 ts l5 e5 tr => ?_⟩
    refine ⟨_, rfl, ⟨_, .of e5⟩, ?_⟩
    refine for_list (xs := ts.map V.ref) (fun j σ' H' => H' q1 = some (.lst (ts.map V.ref)) ∧ (∀ t ∈ ts, Trip cl H' t (.str z)) ∧ IsPen H' d dl (i * 1000 + 101) ∧ ∃ x5 x6 x7, σ' = [some (.ref a), some (.ref d), some (.int (0 + (i : Nat))), some (.int (num - (0 + (i : Nat)))), some (.str z), x5, x6, x7])
      ⟨e5, tr, p4.le l5, x5, x6, x7, rfl⟩ (fun _ _ _ _ h => .of h.1) ?_ (fun σ H h => h.2.2)
    rintro j x σ H5 hx5 ⟨e5, tr5, p5, x5, x6, x7, rfl⟩
    rw [List.getElem?_map] at hx5
    cases hj : ts[j]? with
    | none => rw [hj] at hx5; cases hx5
    | some t =>
      rw [hj] at hx5
      cases hx5
      obtain ⟨e, ii, fs, ht, ea⟩ := tr5 t (List.mem_of_getElem? hj)
      refine ⟨t, _, rfl, .of ht, rfl, _, _, rfl, _, _, rfl, _, _, rfl, rfl, ?_⟩
      refine ⟨_, rfl, _, _, rfl, .str _ (nm_repr nmz), ?_⟩
      refine ⟨_, rfl, _, _, rfl, .str _ (nm_repr nmz), ?_⟩
      refine ⟨rfl, _, rfl, ?_⟩
      refine iteNS rfl ?_
      refine ⟨_, rfl, _, rfl, e, ii, fs, rfl, ea, _, rfl, ?_⟩
      refine iteF ?_
      exact ⟨e5, tr5, p5, _, _, _, rfl⟩
  rintro σ H5 ⟨p5, x5, x6, x7, rfl⟩
  refine ⟨_, rfl, d, dl, _, rfl, p5, by omega, fun H6 l6 p6 => ?_⟩
  refine ⟨_, rfl, iteF ?_⟩
  exact ⟨p6.mono (by omega), _, _, _, _, _, _, rfl⟩
end
end Od
end
set_option Elab.async false
set_option linter.all false
set_option maxRecDepth 100000
set_option maxHeartbeats 0
set_option autoImplicit false
namespace Od
open PySem PySem.Spec PyProof.Rows L2 He
theorem mem15 : ∀ i : Fin 15, i ∈ ([0, 1, 2, 3, 4, 5, 6, 7, 8, 9, 10, 11, 12, 13, 14] : List (Fin 15)) := by decide
abbrev faL : List Fa := [.glo "_law_pen", .glo "_law_draw", .glo "_law_pick", .glo "_law_shuffled", .glo "_law_barred", .glo "_law_names", .glo "_law_classes", .glo "_law_is_one", .glo "_law_numbered", .glo "_law_named", .glo "_law_others_right", .glo "BadCount", .glo "BadDays", .glo "BadMap", .glo "BadName", .glo "BadRule", .glo "Barred", .glo "Endless", .glo "NoChain", .glo "NoPromise", .glo "NotOneTerm", .glo "NothingToUndo", .glo "NoWalker", .glo "OtherMap", .glo "Taken", .glo "TooMany", .free "super", .free "len", .free "abs", .free "int", .free "str", .free "min", .free "max", .free "range", .free "all", .free "any", .free "isinstance", .free "bool", .free "list", .free "enumerate", .free "sorted", .free "dict", .free "repr", .free "tuple", .free "zip", .free "sum", .free "reversed", .free "ValueError", .glo "OneWayError", .glo "law"]
abbrev exL (K : PySem.W.Frag) : List Bool := [supB K "BadCount", initB K "BadCount", supB K "BadDays", initB K "BadDays", supB K "BadMap", initB K "BadMap", supB K "BadName", initB K "BadName", supB K "BadRule", initB K "BadRule", supB K "Barred", initB K "Barred", supB K "Endless", initB K "Endless", supB K "NoChain", initB K "NoChain", supB K "NoPromise", initB K "NoPromise", supB K "NotOneTerm", initB K "NotOneTerm", supB K "NothingToUndo", initB K "NothingToUndo", supB K "NoWalker", initB K "NoWalker", supB K "OtherMap", initB K "OtherMap", supB K "Taken", initB K "Taken", supB K "TooMany", initB K "TooMany", ([0, 1, 2, 3, 4, 5, 6, 7, 8, 9, 10, 11, 12, 13, 14] : List (Fin 15)).all fun i => supB K (errN i), ([0, 1, 2, 3, 4, 5, 6, 7, 8, 9, 10, 11, 12, 13, 14] : List (Fin 15)).all fun i => ([0, 1, 2, 3, 4, 5, 6, 7, 8, 9, 10, 11, 12, 13, 14] : List (Fin 15)).all fun j => decide (PySem.W.kitOne K (.ref (ga K (errN i))) (.ref (ga K (errN j))) = some (decide (i = j))), ([0, 1, 2, 3, 4, 5, 6, 7, 8, 9, 10, 11, 12, 13, 14] : List (Fin 15)).all fun i => decide (PySem.W.kitOne K (.ref (ga K (errN i))) (.ref (ga K "OneWayError")) = some true), ([0, 1, 2, 3, 4, 5, 6, 7, 8, 9, 10, 11, 12, 13, 14] : List (Fin 15)).all fun i => decide (PySem.W.kitOne K (.ref (ga K (errN i))) (.type "ValueError") = some true), eqO (PySem.W.findIn K (.ref (ga K "BadDays")) "index") (some none), eqO (PySem.W.findIn K (.ref (ga K "BadMap")) "line") (some none), eqO (PySem.W.findIn K (.ref (ga K "BadRule")) "index") (some none), eqO (PySem.W.findIn K (.ref (ga K "TooMany")) "limit") (some none), eqO (PySem.W.findIn K (.ref (ga K "BadCount")) "count") (some none), eqO (PySem.W.findIn K (.ref (ga K "NoChain")) "name") (some none), eqO (PySem.W.findIn K (.ref (ga K "BadName")) "name") (some none), eqO (PySem.W.findIn K (.ref (ga K "NoWalker")) "name") (some none), eqO (PySem.W.findIn K (.ref (ga K "Taken")) "name") (some none), eqO (PySem.W.findIn K (.ref (ga K "NoPromise")) "name") (some none), eqO (PySem.W.findIn K (.ref (ga K "Barred")) "names") (some none)]
def fnL : List DefE := [dG "_law_pen" s__law_pen, dG "_law_draw" s__law_draw, dG "_law_pick" s__law_pick, dG "_law_shuffled" s__law_shuffled, dG "_law_barred" s__law_barred, dG "_law_names" s__law_names, dG "_law_classes" s__law_classes, dG "_law_is_one" s__law_is_one, dG "_law_numbered" s__law_numbered, dG "_law_named" s__law_named, dG "_law_others_right" s__law_others_right, dS "BadCount" "BadCount.__init__" s_BadCount___init__, dS "BadDays" "BadDays.__init__" s_BadDays___init__, dS "BadMap" "BadMap.__init__" s_BadMap___init__, dS "BadName" "BadName.__init__" s_BadName___init__, dS "BadRule" "BadRule.__init__" s_BadRule___init__, dS "Barred" "Barred.__init__" s_Barred___init__, dS "Endless" "Endless.__init__" s_Endless___init__, dS "NoChain" "NoChain.__init__" s_NoChain___init__, dS "NoPromise" "NoPromise.__init__" s_NoPromise___init__, dS "NotOneTerm" "NotOneTerm.__init__" s_NotOneTerm___init__, dS "NothingToUndo" "NothingToUndo.__init__" s_NothingToUndo___init__, dS "NoWalker" "NoWalker.__init__" s_NoWalker___init__, dS "OtherMap" "OtherMap.__init__" s_OtherMap___init__, dS "Taken" "Taken.__init__" s_Taken___init__, dS "TooMany" "TooMany.__init__" s_TooMany___init__, dG "law" s_law]
abbrev moL : PySem.W.Frag → Bool := moF faL exL
abbrev RL : PySem.W.OpenRow := PySem.W.OpenLaw.row PySem.Challenge.rw_onewaydays_k70_errors
abbrev hkL : PySem.W.Hook := hookE 6 moL fnL
def obL (s : PySem.W.SharedT) : AlE := obsEG 6 moL fnL (HandSHeadRun.getT s)
theorem obL_eq (s : PySem.W.SharedT) : obL s = hkL.obs s.abs := obsEG_eq (HandSHeadRun.getT_eq s)
def namesL : List Str := (["__name__", "OneWayError", "BadDays", "BadMap", "BadRule", "NoChain", "OtherMap", "Endless", "NotOneTerm", "BadName", "NoWalker", "BadCount", "TooMany", "Taken", "NoPromise", "Barred", "NothingToUndo", "_law_pen", "_law_draw", "_law_pick"] : List Str) ++ (["_law_shuffled", "_law_barred", "_law_names", "_law_classes", "_law_is_one", "_law_numbered", "_law_named", "_law_others_right"] : List Str)
theorem runL (w : World) : HandSHeadRun.RunEq RL (PySem.W.view RL.prog [29]) hkL obL 12000 namesL w := by
  intro os
  kernel_rfl
section
variable {K : PySem.W.Frag} {h : Heap} {mg : Str → Option Value}
theorem h_F__law_pen (X : K.In h) (G : h.Ns mainGlobals mg) (c : obsE moL fnL K = valE fnL) : DefOf K mg "_law_pen" s__law_pen P__law_pen := defOf_ X G (moF_fact (saysE_mo c) 0) (saysE_def c 0) (fun _ _ _ _ _ _ us hl => match us, hl with | [_], _ => rfl)
theorem h_F__law_draw (X : K.In h) (G : h.Ns mainGlobals mg) (c : obsE moL fnL K = valE fnL) : DefOf K mg "_law_draw" s__law_draw P__law_draw := defOf_ X G (moF_fact (saysE_mo c) 1) (saysE_def c 1) (fun _ _ _ _ _ _ us hl => match us, hl with | [_, _], _ => rfl)
theorem h_F__law_pick (X : K.In h) (G : h.Ns mainGlobals mg) (c : obsE moL fnL K = valE fnL) : DefOf K mg "_law_pick" s__law_pick P__law_pick := defOf_ X G (moF_fact (saysE_mo c) 2) (saysE_def c 2) (fun _ _ _ _ _ _ us hl => match us, hl with | [_, _], _ => rfl)
theorem h_F__law_shuffled (X : K.In h) (G : h.Ns mainGlobals mg) (c : obsE moL fnL K = valE fnL) : DefOf K mg "_law_shuffled" s__law_shuffled P__law_shuffled := defOf_ X G (moF_fact (saysE_mo c) 3) (saysE_def c 3) (fun _ _ _ _ _ _ us hl => match us, hl with | [_, _], _ => rfl)
theorem h_F__law_barred (X : K.In h) (G : h.Ns mainGlobals mg) (c : obsE moL fnL K = valE fnL) : DefOf K mg "_law_barred" s__law_barred P__law_barred := defOf_ X G (moF_fact (saysE_mo c) 4) (saysE_def c 4) (fun _ _ _ _ _ _ us hl => match us, hl with | [], _ => rfl)
theorem h_F__law_names (X : K.In h) (G : h.Ns mainGlobals mg) (c : obsE moL fnL K = valE fnL) : DefOf K mg "_law_names" s__law_names P__law_names := defOf_ X G (moF_fact (saysE_mo c) 5) (saysE_def c 5) (fun _ _ _ _ _ _ us hl => match us, hl with | [_, _], _ => rfl)
theorem h_F__law_classes (X : K.In h) (G : h.Ns mainGlobals mg) (c : obsE moL fnL K = valE fnL) : DefOf K mg "_law_classes" s__law_classes P__law_classes := defOf_ X G (moF_fact (saysE_mo c) 6) (saysE_def c 6) (fun _ _ _ _ _ _ us hl => match us, hl with | [_], _ => rfl)
theorem h_F__law_is_one (X : K.In h) (G : h.Ns mainGlobals mg) (c : obsE moL fnL K = valE fnL) : DefOf K mg "_law_is_one" s__law_is_one P__law_is_one := defOf_ X G (moF_fact (saysE_mo c) 7) (saysE_def c 7) (fun _ _ _ _ _ _ us hl => match us, hl with | [_, _], _ => rfl)
theorem h_F__law_numbered (X : K.In h) (G : h.Ns mainGlobals mg) (c : obsE moL fnL K = valE fnL) : DefOf K mg "_law_numbered" s__law_numbered P__law_numbered := defOf_ X G (moF_fact (saysE_mo c) 8) (saysE_def c 8) (fun _ _ _ _ _ _ us hl => match us, hl with | [_], _ => rfl)
theorem h_F__law_named (X : K.In h) (G : h.Ns mainGlobals mg) (c : obsE moL fnL K = valE fnL) : DefOf K mg "_law_named" s__law_named P__law_named := defOf_ X G (moF_fact (saysE_mo c) 9) (saysE_def c 9) (fun _ _ _ _ _ _ us hl => match us, hl with | [_], _ => rfl)
theorem h_F__law_others_right (X : K.In h) (G : h.Ns mainGlobals mg) (c : obsE moL fnL K = valE fnL) : DefOf K mg "_law_others_right" s__law_others_right P__law_others_right := defOf_ X G (moF_fact (saysE_mo c) 10) (saysE_def c 10) (fun _ _ _ _ _ _ us hl => match us, hl with | [_], _ => rfl)
theorem h_F_BadCount (X : K.In h) (G : h.Ns mainGlobals mg) (c : obsE moL fnL K = valE fnL) : SupOf K mg "BadCount" (ga K "BadCount") "BadCount.__init__" s_BadCount___init__ P_BadCount___init__ := supOf_ X G (moF_ex (saysE_mo c) 0) (moF_fact (saysE_mo c) 11) (moF_ex (saysE_mo c) 1) (saysE_sup c 11) (fun _ _ _ _ _ _ _ us hl => match us, hl with | [_, _], _ => rfl)
theorem h_F_BadDays (X : K.In h) (G : h.Ns mainGlobals mg) (c : obsE moL fnL K = valE fnL) : SupOf K mg "BadDays" (ga K "BadDays") "BadDays.__init__" s_BadDays___init__ P_BadDays___init__ := supOf_ X G (moF_ex (saysE_mo c) 2) (moF_fact (saysE_mo c) 12) (moF_ex (saysE_mo c) 3) (saysE_sup c 12) (fun _ _ _ _ _ _ _ us hl => match us, hl with | [_, _], _ => rfl)
theorem h_F_BadMap (X : K.In h) (G : h.Ns mainGlobals mg) (c : obsE moL fnL K = valE fnL) : SupOf K mg "BadMap" (ga K "BadMap") "BadMap.__init__" s_BadMap___init__ P_BadMap___init__ := supOf_ X G (moF_ex (saysE_mo c) 4) (moF_fact (saysE_mo c) 13) (moF_ex (saysE_mo c) 5) (saysE_sup c 13) (fun _ _ _ _ _ _ _ us hl => match us, hl with | [_, _], _ => rfl)
theorem h_F_BadName (X : K.In h) (G : h.Ns mainGlobals mg) (c : obsE moL fnL K = valE fnL) : SupOf K mg "BadName" (ga K "BadName") "BadName.__init__" s_BadName___init__ P_BadName___init__ := supOf_ X G (moF_ex (saysE_mo c) 6) (moF_fact (saysE_mo c) 14) (moF_ex (saysE_mo c) 7) (saysE_sup c 14) (fun _ _ _ _ _ _ _ us hl => match us, hl with | [_, _], _ => rfl)
theorem h_F_BadRule (X : K.In h) (G : h.Ns mainGlobals mg) (c : obsE moL fnL K = valE fnL) : SupOf K mg "BadRule" (ga K "BadRule") "BadRule.__init__" s_BadRule___init__ P_BadRule___init__ := supOf_ X G (moF_ex (saysE_mo c) 8) (moF_fact (saysE_mo c) 15) (moF_ex (saysE_mo c) 9) (saysE_sup c 15) (fun _ _ _ _ _ _ _ us hl => match us, hl with | [_, _], _ => rfl)
theorem h_F_Barred (X : K.In h) (G : h.Ns mainGlobals mg) (c : obsE moL fnL K = valE fnL) : SupOf K mg "Barred" (ga K "Barred") "Barred.__init__" s_Barred___init__ P_Barred___init__ := supOf_ X G (moF_ex (saysE_mo c) 10) (moF_fact (saysE_mo c) 16) (moF_ex (saysE_mo c) 11) (saysE_sup c 16) (fun _ _ _ _ _ _ _ us hl => match us, hl with | [_, _], _ => rfl)
theorem h_F_Endless (X : K.In h) (G : h.Ns mainGlobals mg) (c : obsE moL fnL K = valE fnL) : SupOf K mg "Endless" (ga K "Endless") "Endless.__init__" s_Endless___init__ P_Endless___init__ := supOf_ X G (moF_ex (saysE_mo c) 12) (moF_fact (saysE_mo c) 17) (moF_ex (saysE_mo c) 13) (saysE_sup c 17) (fun _ _ _ _ _ _ _ us hl => match us, hl with | [_], _ => rfl)
theorem h_F_NoChain (X : K.In h) (G : h.Ns mainGlobals mg) (c : obsE moL fnL K = valE fnL) : SupOf K mg "NoChain" (ga K "NoChain") "NoChain.__init__" s_NoChain___init__ P_NoChain___init__ := supOf_ X G (moF_ex (saysE_mo c) 14) (moF_fact (saysE_mo c) 18) (moF_ex (saysE_mo c) 15) (saysE_sup c 18) (fun _ _ _ _ _ _ _ us hl => match us, hl with | [_, _], _ => rfl)
theorem h_F_NoPromise (X : K.In h) (G : h.Ns mainGlobals mg) (c : obsE moL fnL K = valE fnL) : SupOf K mg "NoPromise" (ga K "NoPromise") "NoPromise.__init__" s_NoPromise___init__ P_NoPromise___init__ := supOf_ X G (moF_ex (saysE_mo c) 16) (moF_fact (saysE_mo c) 19) (moF_ex (saysE_mo c) 17) (saysE_sup c 19) (fun _ _ _ _ _ _ _ us hl => match us, hl with | [_, _], _ => rfl)
theorem h_F_NotOneTerm (X : K.In h) (G : h.Ns mainGlobals mg) (c : obsE moL fnL K = valE fnL) : SupOf K mg "NotOneTerm" (ga K "NotOneTerm") "NotOneTerm.__init__" s_NotOneTerm___init__ P_NotOneTerm___init__ := supOf_ X G (moF_ex (saysE_mo c) 18) (moF_fact (saysE_mo c) 20) (moF_ex (saysE_mo c) 19) (saysE_sup c 20) (fun _ _ _ _ _ _ _ us hl => match us, hl with | [_], _ => rfl)
theorem h_F_NothingToUndo (X : K.In h) (G : h.Ns mainGlobals mg) (c : obsE moL fnL K = valE fnL) : SupOf K mg "NothingToUndo" (ga K "NothingToUndo") "NothingToUndo.__init__" s_NothingToUndo___init__ P_NothingToUndo___init__ := supOf_ X G (moF_ex (saysE_mo c) 20) (moF_fact (saysE_mo c) 21) (moF_ex (saysE_mo c) 21) (saysE_sup c 21) (fun _ _ _ _ _ _ _ us hl => match us, hl with | [_], _ => rfl)
theorem h_F_NoWalker (X : K.In h) (G : h.Ns mainGlobals mg) (c : obsE moL fnL K = valE fnL) : SupOf K mg "NoWalker" (ga K "NoWalker") "NoWalker.__init__" s_NoWalker___init__ P_NoWalker___init__ := supOf_ X G (moF_ex (saysE_mo c) 22) (moF_fact (saysE_mo c) 22) (moF_ex (saysE_mo c) 23) (saysE_sup c 22) (fun _ _ _ _ _ _ _ us hl => match us, hl with | [_, _], _ => rfl)
theorem h_F_OtherMap (X : K.In h) (G : h.Ns mainGlobals mg) (c : obsE moL fnL K = valE fnL) : SupOf K mg "OtherMap" (ga K "OtherMap") "OtherMap.__init__" s_OtherMap___init__ P_OtherMap___init__ := supOf_ X G (moF_ex (saysE_mo c) 24) (moF_fact (saysE_mo c) 23) (moF_ex (saysE_mo c) 25) (saysE_sup c 23) (fun _ _ _ _ _ _ _ us hl => match us, hl with | [_], _ => rfl)
theorem h_F_Taken (X : K.In h) (G : h.Ns mainGlobals mg) (c : obsE moL fnL K = valE fnL) : SupOf K mg "Taken" (ga K "Taken") "Taken.__init__" s_Taken___init__ P_Taken___init__ := supOf_ X G (moF_ex (saysE_mo c) 26) (moF_fact (saysE_mo c) 24) (moF_ex (saysE_mo c) 27) (saysE_sup c 24) (fun _ _ _ _ _ _ _ us hl => match us, hl with | [_, _], _ => rfl)
theorem h_F_TooMany (X : K.In h) (G : h.Ns mainGlobals mg) (c : obsE moL fnL K = valE fnL) : SupOf K mg "TooMany" (ga K "TooMany") "TooMany.__init__" s_TooMany___init__ P_TooMany___init__ := supOf_ X G (moF_ex (saysE_mo c) 28) (moF_fact (saysE_mo c) 25) (moF_ex (saysE_mo c) 29) (saysE_sup c 25) (fun _ _ _ _ _ _ _ us hl => match us, hl with | [_, _], _ => rfl)
theorem h_SU (X : K.In h) (G : h.Ns mainGlobals mg) (c : obsE moL fnL K = valE fnL) : mg "super" = none := free_ok X G (moF_fact (saysE_mo c) 26)
theorem h_T (X : K.In h) (G : h.Ns mainGlobals mg) (c : obsE moL fnL K = valE fnL) : Txt K mg := { b_len := free_ok X G (moF_fact (saysE_mo c) 27), b_abs := free_ok X G (moF_fact (saysE_mo c) 28), b_int := free_ok X G (moF_fact (saysE_mo c) 29), b_str := free_ok X G (moF_fact (saysE_mo c) 30), b_min := free_ok X G (moF_fact (saysE_mo c) 31), b_max := free_ok X G (moF_fact (saysE_mo c) 32), b_range := free_ok X G (moF_fact (saysE_mo c) 33), b_all := free_ok X G (moF_fact (saysE_mo c) 34), b_any := free_ok X G (moF_fact (saysE_mo c) 35), b_isinstance := free_ok X G (moF_fact (saysE_mo c) 36), b_bool := free_ok X G (moF_fact (saysE_mo c) 37), b_list := free_ok X G (moF_fact (saysE_mo c) 38), b_enumerate := free_ok X G (moF_fact (saysE_mo c) 39), b_sorted := free_ok X G (moF_fact (saysE_mo c) 40), b_dict := free_ok X G (moF_fact (saysE_mo c) 41), b_repr := free_ok X G (moF_fact (saysE_mo c) 42), b_tuple := free_ok X G (moF_fact (saysE_mo c) 43), b_zip := free_ok X G (moF_fact (saysE_mo c) 44), b_sum := free_ok X G (moF_fact (saysE_mo c) 45), b_reversed := free_ok X G (moF_fact (saysE_mo c) 46) }
theorem h_EC (X : K.In h) (G : h.Ns mainGlobals mg) (c : obsE moL fnL K = valE fnL) : ErrC K mg (fun i => ga K (errN i)) (ga K "OneWayError") := { ve := free_ok X G (moF_fact (saysE_mo c) 47), g_OneWayError := ⟨_, glo_ok X G (moF_fact (saysE_mo c) 48), rfl⟩, g_BadCount := ⟨_, glo_ok X G (moF_fact (saysE_mo c) 11), rfl⟩, g_BadDays := ⟨_, glo_ok X G (moF_fact (saysE_mo c) 12), rfl⟩, g_BadMap := ⟨_, glo_ok X G (moF_fact (saysE_mo c) 13), rfl⟩, g_BadName := ⟨_, glo_ok X G (moF_fact (saysE_mo c) 14), rfl⟩, g_BadRule := ⟨_, glo_ok X G (moF_fact (saysE_mo c) 15), rfl⟩, g_Barred := ⟨_, glo_ok X G (moF_fact (saysE_mo c) 16), rfl⟩, g_Endless := ⟨_, glo_ok X G (moF_fact (saysE_mo c) 17), rfl⟩, g_NoChain := ⟨_, glo_ok X G (moF_fact (saysE_mo c) 18), rfl⟩, g_NoPromise := ⟨_, glo_ok X G (moF_fact (saysE_mo c) 19), rfl⟩, g_NotOneTerm := ⟨_, glo_ok X G (moF_fact (saysE_mo c) 20), rfl⟩, g_NothingToUndo := ⟨_, glo_ok X G (moF_fact (saysE_mo c) 21), rfl⟩, g_NoWalker := ⟨_, glo_ok X G (moF_fact (saysE_mo c) 22), rfl⟩, g_OtherMap := ⟨_, glo_ok X G (moF_fact (saysE_mo c) 23), rfl⟩, g_Taken := ⟨_, glo_ok X G (moF_fact (saysE_mo c) 24), rfl⟩, g_TooMany := ⟨_, glo_ok X G (moF_fact (saysE_mo c) 25), rfl⟩, sc := fun i => sup_ok (List.all_eq_true.mp (moF_ex (saysE_mo c) 30) i (mem15 i)), kit := fun i j => of_decide_eq_true (List.all_eq_true.mp (List.all_eq_true.mp (moF_ex (saysE_mo c) 31) i (mem15 i)) j (mem15 j)), kitB := fun i => of_decide_eq_true (List.all_eq_true.mp (moF_ex (saysE_mo c) 32) i (mem15 i)), kitV := fun i => of_decide_eq_true (List.all_eq_true.mp (moF_ex (saysE_mo c) 33) i (mem15 i)), n_index1 := eqO_ok (moF_ex (saysE_mo c) 34), n_line := eqO_ok (moF_ex (saysE_mo c) 35), n_index4 := eqO_ok (moF_ex (saysE_mo c) 36), n_limit := eqO_ok (moF_ex (saysE_mo c) 37), n_count := eqO_ok (moF_ex (saysE_mo c) 38), n_name7 := eqO_ok (moF_ex (saysE_mo c) 39), n_name3 := eqO_ok (moF_ex (saysE_mo c) 40), n_name11 := eqO_ok (moF_ex (saysE_mo c) 41), n_name13 := eqO_ok (moF_ex (saysE_mo c) 42), n_name8 := eqO_ok (moF_ex (saysE_mo c) 43), n_names := eqO_ok (moF_ex (saysE_mo c) 44) }
end
theorem factsL {P : Program} {w : World} {K : PySem.W.Frag} {h : Heap} {mg : Str → Option Value} {f : Addr} (X : K.In h) (G : h.Ns mainGlobals mg) (hfa : mg ("law" : Str) = some (.ref f)) (c : obsE moL fnL K = valE fnL) (EP : SupP P "/claim/cut.py") :
    ∃ fd : FuncData, (∀ (s : Shared) (v : Value), BindsTo s fd ⟨[v], []⟩ [("_law_script", v)]) ∧ ∀ base : Heap, K.In base → base.Ns mainGlobals mg → FnOk P w K mg base C8.CX0 5 f fd ["_law_script"] (sp_law (K := K)) := by
  obtain ⟨fd, Fl, df, _⟩ := saysE_def c 26 (d := dG "law" s_law) rfl
  have e := hfa.symm.trans (glo_ok X G (moF_fact (saysE_mo c) 49 (f := .glo "law") rfl))
  cases e
  have b : ∀ (s : Shared) (v : Value), BindsTo s fd ⟨[v], []⟩ [("_law_script", v)] := by
    obtain ⟨oc, od, dV, kV, doc, pm, an, cdv, ct, osl, rfl, _, _⟩ := Fl.ex
    have e2 : dV = .none := df
    subst e2
    exact fun s v => .of_eq rfl
  refine ⟨fd, b, fun base hb hG => ?_⟩
  have F__law_pen := h_F__law_pen X G c
  have F__law_draw := h_F__law_draw X G c
  have F__law_pick := h_F__law_pick X G c
  have F__law_shuffled := h_F__law_shuffled X G c
  have F__law_barred := h_F__law_barred X G c
  have F__law_names := h_F__law_names X G c
  have F__law_classes := h_F__law_classes X G c
  have F__law_is_one := h_F__law_is_one X G c
  have F__law_numbered := h_F__law_numbered X G c
  have F__law_named := h_F__law_named X G c
  have F__law_others_right := h_F__law_others_right X G c
  have F_BadCount := h_F_BadCount X G c
  have F_BadDays := h_F_BadDays X G c
  have F_BadMap := h_F_BadMap X G c
  have F_BadName := h_F_BadName X G c
  have F_BadRule := h_F_BadRule X G c
  have F_Barred := h_F_Barred X G c
  have F_Endless := h_F_Endless X G c
  have F_NoChain := h_F_NoChain X G c
  have F_NoPromise := h_F_NoPromise X G c
  have F_NotOneTerm := h_F_NotOneTerm X G c
  have F_NothingToUndo := h_F_NothingToUndo X G c
  have F_NoWalker := h_F_NoWalker X G c
  have F_OtherMap := h_F_OtherMap X G c
  have F_Taken := h_F_Taken X G c
  have F_TooMany := h_F_TooMany X G c
  have SU := h_SU X G c
  have T := h_T X G c
  have EC := h_EC X G c
  have O_BadDays := o_BadDays (P := P) (w := w) (base := base) EC.n_index1 EP SU F_BadDays
  have O_BadMap := o_BadMap (P := P) (w := w) (base := base) EC.n_line EP SU F_BadMap
  have O_BadRule := o_BadRule (P := P) (w := w) (base := base) EC.n_index4 EP SU F_BadRule
  have O_TooMany := o_TooMany (P := P) (w := w) (base := base) EC.n_limit EP SU F_TooMany
  have O_BadCount := o_BadCount (P := P) (w := w) (base := base) EC.n_count EP SU F_BadCount
  have O_NoChain := o_NoChain (P := P) (w := w) (base := base) EC.n_name7 EP SU F_NoChain
  have O_BadName := o_BadName (P := P) (w := w) (base := base) EC.n_name3 EP SU F_BadName
  have O_NoWalker := o_NoWalker (P := P) (w := w) (base := base) EC.n_name11 EP SU F_NoWalker
  have O_Taken := o_Taken (P := P) (w := w) (base := base) EC.n_name13 EP SU F_Taken
  have O_NoPromise := o_NoPromise (P := P) (w := w) (base := base) EC.n_name8 EP SU F_NoPromise
  have O_OtherMap := o_OtherMap (P := P) (w := w) (base := base) EP SU F_OtherMap
  have O_Endless := o_Endless (P := P) (w := w) (base := base) EP SU F_Endless
  have O_NotOneTerm := o_NotOneTerm (P := P) (w := w) (base := base) EP SU F_NotOneTerm
  have O_NothingToUndo := o_NothingToUndo (P := P) (w := w) (base := base) EP SU F_NothingToUndo
  have O_Barred := o_Barred (P := P) (w := w) (base := base) T EC.n_names EP SU F_Barred
  have C_pen := c_pen (P := P) (w := w) (base := base) T F__law_pen
  have C_draw := c_draw (P := P) (w := w) (base := base) T F__law_draw
  have C_pick := c_pick (P := P) (w := w) (base := base) T F__law_pick C_draw
  have C_shuffled := c_shuffled (P := P) (w := w) (base := base) T F__law_shuffled C_draw
  have C_barred := c_barred (P := P) (w := w) (base := base) T F__law_barred
  have C_names := c_names (P := P) (w := w) (base := base) T F__law_names C_draw C_pick C_barred C_shuffled
  have C_classes := c_classes (P := P) (w := w) (base := base) T EC F__law_classes
  have C_isone := c_isone (P := P) (w := w) (base := base) T EC F__law_is_one C_classes
  have C_numbered := c_numbered (P := P) (w := w) (base := base) T EC F__law_numbered O_BadDays O_BadMap O_BadRule O_BadCount O_TooMany
  have C_named := c_named (P := P) (w := w) (base := base) T EC F__law_named O_NoChain O_BadName O_NoWalker O_Taken O_NoPromise
  have C_others := c_others (P := P) (w := w) (base := base) T EC F__law_others_right C_draw C_names C_isone O_Barred O_OtherMap O_Endless O_NotOneTerm O_NothingToUndo
  exact ok_law T EC Fl C_pen C_draw C_names C_numbered C_named C_isone C_others
end Od
open PySem PySem.W PySem.Calls PyProof.Rows
set_option maxRecDepth 100000 in
set_option maxHeartbeats 0 in
theorem PySem.Challenge.cw_onewaydays_k70_errors_holds : PySem.Challenge.rw_onewaydays_k70_errors.Holds := by
  w_on; o_law
  refine HandSHeadRun.head_any (r := OpenLaw.row PySem.Challenge.rw_onewaydays_k70_errors) (q := view (OpenLaw.row PySem.Challenge.rw_onewaydays_k70_errors).prog [29]) (H := Od.hkL) (ob := Od.obL) (M := 12000) (loose := Od.namesL) (d := HandSHeadRun.topDef (OpenLaw.row PySem.Challenge.rw_onewaydays_k70_errors).prog 29) (kwd := []) Od.obL_eq
    (by kernel_rfl) (fun s => by kernel_rfl) Od.runL (by kernel_rfl) (by kernel_rfl) (by kernel_rfl) (by rfl) (by first | assumption | decide +kernel) (by decide +kernel) ⟨rfl, rfl, rfl, rfl, rfl, by decide +kernel⟩ ?hw ?hc
  case hw => w_witness2
  case hc =>
    refine L2.walk_ofE (l := PySem.Challenge.rw_onewaydays_k70_errors) (n := 63) (k := 5) (x := "_law_script") (CX := C8.CX0) rfl (by decide) (by kernel_rfl) ⟨rfl, by decide, by decide⟩ ?F (fun _ _ _ _ z => z)
    intro w mg fa h Y G hmg0
    obtain ⟨K, KX, c⟩ := Y
    have hmg : mg ("law" : PySem.Str) = some (.ref fa) := by
      have e : (HandSHeadRun.topDef (OpenLaw.row PySem.Challenge.rw_onewaydays_k70_errors).prog 29).name = ("law" : PySem.Str) := by kernel_rfl
      rw [← e]
      exact hmg0
    obtain ⟨fd, hb, hF⟩ := Od.factsL (P := (PySem.Challenge.rw_onewaydays_k70_errors).prog) (w := w) KX G hmg c ⟨by kernel_rfl, by kernel_rfl⟩
    exact ⟨K, fd, Od.sp_law (K := K), KX, hb, fun H a ns hl hO hS => ⟨a, ns, rfl, hS, hl, fun _ => rfl⟩, hF⟩
