import PyProof.Rows.All
import Wide.All
import OpenK.AllK
import Wide.FinOn
import PyProof.StrBlock2
import PyProof.Rows.StrRev
import PyProof.InstEq
import KE.KOpsOwn
import KE.KCallOwn
import HandS.ForMost
import HandS.Wide
import HandS.Codes
import HandS.ClsMeth
import HandS.OwnEq
import HandS.IsInst
import HandS.Walk
import HandS.FStr
import KE.KIntText
import KE.IntTextLaws
import HandS.Sort
import HandS.Conv
import KE.KDictList
import PyProof.EqAt
import PyProof.NeKinds
import HandS.DictComp
import HandS.TryOnly
import HandS.Head0
import HandS.Head1
import HandS.Head2
import HandS.HeadEnd
import HandS.HeadHook1
import HandS.HeadHook2
import KE.KExcSuper
import HandS.Nested
import HandS.ExcInit
import HandS.ExcSuper
import HandS.ExcField
import HandS.ExcIs
import HandS.ExcOwn
import HandS.More
import HandS.Text
import HandS.StrMore
import HandS.Comp
import HandS.Dict
import HandS.Star
import HandS.RaiseMore
import HandS.Deep
import PyProof.Rows.SortShellAny
import HandS.Style
import PySem.Challenge.RW_onewaydays_k02_forms_refused
section
set_option Elab.async false
set_option linter.all false
namespace Day
/-! ### rows that are repeated -/
theorem gd_left {a b : List Bool} {i : Nat} (h : i < a.length) : (a ++ b).getD i false = a.getD i false := by
  rw [List.getD_eq_getElem?_getD, List.getElem?_append_left h, ← List.getD_eq_getElem?_getD]
theorem gd_right {a b : List Bool} {i : Nat} (h : a.length ≤ i) : (a ++ b).getD i false = b.getD (i - a.length) false := by
  rw [List.getD_eq_getElem?_getD, List.getElem?_append_right h, ← List.getD_eq_getElem?_getD]
def cyc (l : List Bool) (z : Int) : Bool := l.getD (z % (l.length : Int)).toNat false
def Per (f : Int → Bool) (p : Int) : Prop := ∀ z, f (z + p) = f z
theorem Per.neg {f : Int → Bool} {p : Int} (h : Per f p) : Per f (-p) := fun z => by
  have := h (z + -p)
  rw [show z + -p + p = z by omega] at this
  exact this.symm
theorem Per.add {f : Int → Bool} {p q : Int} (h : Per f p) (k : Per f q) : Per f (p + q) := fun z => by
  rw [show z + (p + q) = z + p + q by omega, k, h]
theorem Per.nat {f : Int → Bool} {p : Int} (h : Per f p) : ∀ n : Nat, Per f ((n : Int) * p)
  | 0 => fun z => by simp
  | n + 1 => by
    have := (Per.nat h n).add h
    rw [show ((n + 1 : Nat) : Int) * p = (n : Int) * p + p by rw [Int.natCast_add, Int.add_mul]; simp]
    exact this
theorem Per.mul {f : Int → Bool} {p : Int} (h : Per f p) (k : Int) : Per f (k * p) := by
  rcases Int.le_total 0 k with e | e
  · have := h.nat k.toNat
    rwa [Int.toNat_of_nonneg e] at this
  · have := (h.nat (-k).toNat).neg
    rw [Int.toNat_of_nonneg (by omega)] at this
    rwa [show -(-k * p) = k * p by rw [Int.neg_mul, Int.neg_neg]] at this
theorem Per.mod {f : Int → Bool} {p q : Int} (h : Per f p) (k : Per f q) : Per f (q % p) := by
  have e : q % p = q + (-(q / p)) * p := by
    have := Int.mul_ediv_add_emod q p
    rw [Int.neg_mul, Int.mul_comm (q / p) p]
    omega
  rw [e]
  exact k.add (h.mul _)
theorem Per.at {f : Int → Bool} {p : Int} (h : Per f p) (z k : Int) : f (z + k * p) = f z := h.mul k z
/-- the least positive period divides all periods -/
theorem least_per {f : Int → Bool} {p : Int} (h0 : 0 < p) (h : Per f p) : ∃ d : Int, 0 < d ∧ Per f d ∧ (∀ e, 0 < e → Per f e → d ≤ e) ∧ ∀ e, Per f e → e % d = 0 := by
  have key : ∀ n : Nat, ∀ p : Int, p.toNat = n → 0 < p → Per f p → ∃ d : Int, 0 < d ∧ Per f d ∧ ∀ e, 0 < e → Per f e → d ≤ e := by
    intro n
    induction n using Nat.strongRecOn with
    | ind n ih =>
      intro p hp h0 h
      by_cases q : ∃ e, 0 < e ∧ Per f e ∧ e < p
      · obtain ⟨e, e0, eh, el⟩ := q
        exact ih e.toNat (by omega) e rfl e0 eh
      · exact ⟨p, h0, h, fun e e0 eh => by
          rcases Int.lt_or_le e p with z | z
          · exact absurd ⟨e, e0, eh, z⟩ q
          · exact z⟩
  obtain ⟨d, d0, dh, dl⟩ := key _ p rfl h0 h
  refine ⟨d, d0, dh, dl, fun e eh => ?_⟩
  have m0 := Int.emod_nonneg e (show d ≠ 0 by omega)
  have m1 := Int.emod_lt_of_pos e d0
  rcases Int.lt_or_eq_of_le m0 with z | z
  · have := dl _ z (dh.mod eh)
    omega
  · exact z.symm
theorem cyc_per {l : List Bool} : Per (cyc l) l.length := fun z => by
  unfold cyc
  rw [Int.add_emod_right]
theorem cyc_nat {l : List Bool} {i : Nat} (h : i < l.length) : cyc l i = l.getD i false := by
  unfold cyc
  rw [Int.emod_eq_of_lt (by omega) (by omega)]
  simp
theorem cyc_mod {l : List Bool} (z : Int) : cyc l (z % l.length) = cyc l z := by
  unfold cyc
  rw [Int.emod_emod_of_dvd z (Int.dvd_refl _)]
theorem getD_ext {l k : List Bool} (hl : l.length = k.length) (h : ∀ i, i < l.length → l.getD i false = k.getD i false) : l = k := by
  apply List.ext_getElem hl
  intro i h1 h2
  have := h i h1
  rw [List.getD_eq_getElem?_getD, List.getD_eq_getElem?_getD, List.getElem?_eq_getElem h1, List.getElem?_eq_getElem h2] at this
  simpa using this
theorem cyc_ext {l k : List Bool} (hl : l.length = k.length) (h : ∀ z, cyc l z = cyc k z) : l = k :=
  getD_ext hl fun i hi => by
    have := h i
    rwa [cyc_nat hi, cyc_nat (hl ▸ hi)] at this
/-- the row is the least that gives what it gives -/
def Prim (l : List Bool) : Prop := ∀ p : Int, 0 < p → Per (cyc l) p → (l.length : Int) ≤ p
/-- the test of root_of -/
def Root (l : List Bool) (s : Nat) : Prop := l.length % s = 0 ∧ (List.replicate (l.length / s) (l.take s)).flatten = l
theorem rep_getD (u : List Bool) : ∀ (k i : Nat), i < k * u.length → (List.replicate k u).flatten.getD i false = u.getD (i % u.length) false
  | 0, i, h => by simp at h
  | k + 1, i, h => by
    rw [List.replicate_succ, List.flatten_cons]
    rcases Nat.lt_or_ge i u.length with q | q
    · rw [gd_left q, Nat.mod_eq_of_lt q]
    · rw [gd_right q, rep_getD u k (i - u.length) (by rw [Nat.succ_mul] at h; omega), ← Nat.mod_eq_sub_mod q]
theorem rep_len (u : List Bool) (k : Nat) : (List.replicate k u).flatten.length = k * u.length := by
  simp [List.length_flatten]
theorem take_getD (l : List Bool) {s i : Nat} (h : i < s) : (l.take s).getD i false = l.getD i false := by
  rw [List.getD_eq_getElem?_getD, List.getD_eq_getElem?_getD, List.getElem?_take, if_pos h]
theorem Root.cyc {l : List Bool} {s : Nat} (h0 : 0 < s) (hs : s ≤ l.length) (h : Root l s) (z : Int) : cyc (l.take s) z = cyc l z := by
  obtain ⟨hm, he⟩ := h
  have hlen : (l.take s).length = s := by rw [List.length_take]; omega
  have hdiv : s * (l.length / s) = l.length := by
    have := Nat.div_add_mod l.length s
    omega
  have hl0 : 0 < l.length := by omega
  have b0 := Int.emod_nonneg z (show (l.length : Int) ≠ 0 by omega)
  have b1 := Int.emod_lt_of_pos z (show (0 : Int) < l.length by omega)
  rw [← cyc_mod (l := l) z]
  generalize hw : z % (l.length : Int) = w at *
  have e1 : Day.cyc l w = l.getD w.toNat false := by
    have := cyc_nat (l := l) (i := w.toNat) (by omega)
    rwa [Int.toNat_of_nonneg b0] at this
  rw [e1]
  have e2 : l.getD w.toNat false = (l.take s).getD (w.toNat % s) false := by
    conv => lhs; rw [← he]
    rw [rep_getD _ _ _ (by rw [hlen, Nat.mul_comm, hdiv]; omega), hlen]
  rw [e2]
  unfold Day.cyc
  rw [hlen]
  have e3 : z % (s : Int) = w % (s : Int) := by
    rw [← hw, Int.emod_emod_of_dvd]
    exact ⟨((l.length / s : Nat) : Int), by rw [← Int.natCast_mul, hdiv]⟩
  have e4 : (w % (s : Int)).toNat = w.toNat % s := by
    obtain ⟨v, rfl⟩ : ∃ v : Nat, w = (v : Int) := ⟨w.toNat, (Int.toNat_of_nonneg b0).symm⟩
    rw [← Int.natCast_emod, Int.toNat_natCast, Int.toNat_natCast]
  rw [e3, e4]
theorem Root.of_per {l : List Bool} {s : Nat} (h0 : 0 < s) (hs : s ≤ l.length) (hm : l.length % s = 0) (h : Per (Day.cyc l) s) : Root l s := by
  refine ⟨hm, ?_⟩
  have hlen : (l.take s).length = s := by rw [List.length_take]; omega
  have hdiv : s * (l.length / s) = l.length := by
    have := Nat.div_add_mod l.length s
    omega
  have hl : (List.replicate (l.length / s) (l.take s)).flatten.length = l.length := by rw [rep_len, hlen, Nat.mul_comm, hdiv]
  refine getD_ext hl fun i hi => ?_
  rw [rep_getD _ _ _ (by rw [hlen, Nat.mul_comm, hdiv]; omega), hlen, take_getD _ (Nat.mod_lt _ h0)]
  have hi' : i < l.length := by omega
  rw [← cyc_nat hi', ← cyc_nat (show i % s < l.length from Nat.lt_of_lt_of_le (Nat.mod_lt _ h0) hs)]
  have := h.at ((i % s : Nat) : Int) ((i / s : Nat) : Int)
  rw [← this]
  congr 1
  have e := Nat.mod_add_div i s
  have : (i : Int) = ((i % s + s * (i / s) : Nat) : Int) := by rw [e]
  rw [this, Int.natCast_add, Int.natCast_mul, Int.mul_comm (s : Int)]
theorem Root.per {l : List Bool} {s : Nat} (h0 : 0 < s) (hs : s ≤ l.length) (h : Root l s) : Per (Day.cyc l) s := fun z => by
  have hlen : (l.take s).length = s := by rw [List.length_take]; omega
  rw [← h.cyc h0 hs, ← h.cyc h0 hs]
  have := cyc_per (l := l.take s) z
  rwa [hlen] at this
theorem prim_len {l : List Bool} (h : l ≠ []) : 0 < l.length := by
  cases l with
  | nil => exact absurd rfl h
  | cons a b => simp
theorem root_some {l : List Bool} {s : Nat} (h0 : 1 ≤ s) (hs : s < l.length) (h : Root l s) (hb : ∀ t, 1 ≤ t → t < s → ¬ Root l t) : Prim (l.take s) := by
  have hlen : (l.take s).length = s := by rw [List.length_take]; omega
  obtain ⟨d, d0, dh, dl, dd⟩ := least_per (f := Day.cyc l) (p := s) (by omega) (h.per h0 (by omega))
  have e1 := dl s (by omega) (h.per h0 (by omega))
  have hld := dd l.length cyc_per
  have dn : d = ((d.toNat : Nat) : Int) := (Int.toNat_of_nonneg (by omega)).symm
  rcases Int.lt_or_eq_of_le e1 with z | z
  · refine absurd (Root.of_per (l := l) (s := d.toNat) (by omega) (by omega) ?_ (by rw [← dn]; exact dh)) (hb _ (by omega) (by omega))
    rw [dn, ← Int.natCast_emod] at hld
    omega
  · intro p p0 hp
    rw [hlen, ← z]
    refine dl p p0 fun y => ?_
    have := hp y
    rwa [h.cyc h0 (by omega), h.cyc h0 (by omega)] at this
theorem root_none {l : List Bool} (h : l ≠ []) (hb : ∀ t, 1 ≤ t → t < l.length → ¬ Root l t) : Prim l := by
  have hl := prim_len h
  obtain ⟨d, d0, dh, dl, dd⟩ := least_per (f := Day.cyc l) (p := l.length) (by omega) cyc_per
  have e1 := dl l.length (by omega) cyc_per
  have hld := dd l.length cyc_per
  have dn : d = ((d.toNat : Nat) : Int) := (Int.toNat_of_nonneg (by omega)).symm
  rcases Int.lt_or_eq_of_le e1 with z | z
  · refine absurd (Root.of_per (l := l) (s := d.toNat) (by omega) (by omega) ?_ (by rw [← dn]; exact dh)) (hb _ (by omega) (by omega))
    rw [dn, ← Int.natCast_emod] at hld
    omega
  · intro p p0 hp
    rw [← z]
    exact dl p p0 hp
/-! ### turning a row -/
def turn (l : List Bool) (k : Int) : List Bool := l.drop (k % (l.length : Int)).toNat ++ l.take (k % (l.length : Int)).toNat
theorem turn_len (l : List Bool) (k : Int) : (turn l k).length = l.length := by
  unfold turn
  rw [List.length_append, List.length_drop, List.length_take]
  omega
theorem turn_ne {l : List Bool} {k : Int} (h : l ≠ []) : turn l k ≠ [] := fun e => by
  have := turn_len l k
  rw [e] at this
  have := prim_len h
  simp at *
  omega
theorem turn_cyc {l : List Bool} (h : l ≠ []) (k z : Int) : cyc (turn l k) z = cyc l (z + k) := by
  have hl := prim_len h
  have k0 := Int.emod_nonneg k (show (l.length : Int) ≠ 0 by omega)
  have k1 := Int.emod_lt_of_pos k (show (0 : Int) < l.length by omega)
  have z0 := Int.emod_nonneg z (show (l.length : Int) ≠ 0 by omega)
  have z1 := Int.emod_lt_of_pos z (show (0 : Int) < l.length by omega)
  have e1 : cyc l (z + k) = cyc l (z % l.length + k % l.length) := by
    rw [← cyc_mod (z + k), ← cyc_mod (z % l.length + k % l.length), ← Int.add_emod]
  rw [e1]
  have e2 : cyc (turn l k) z = (turn l k).getD (z % l.length).toNat false := by
    show (turn l k).getD (z % ((turn l k).length : Int)).toNat false = _
    rw [turn_len]
  rw [e2]
  unfold turn
  generalize z % (l.length : Int) = y at *
  generalize k % (l.length : Int) = j at *
  rcases Int.lt_or_le (y + j) l.length with q | q
  · rw [gd_left (by rw [List.length_drop]; omega)]
    rw [List.getD_eq_getElem?_getD, List.getElem?_drop, ← List.getD_eq_getElem?_getD]
    have := cyc_nat (l := l) (i := (y + j).toNat) (by omega)
    rw [Int.toNat_of_nonneg (by omega)] at this
    rw [this]
    congr 1
    omega
  · rw [gd_right (by rw [List.length_drop]; omega), List.length_drop, take_getD _ (by omega)]
    have h1 : cyc l (y + j) = cyc l (y + j - l.length) := by
      have := cyc_per (l := l) (y + j - l.length)
      rw [show y + j - (l.length : Int) + l.length = y + j by omega] at this
      exact this
    rw [h1]
    have := cyc_nat (l := l) (i := (y + j - l.length).toNat) (by omega)
    rw [Int.toNat_of_nonneg (by omega)] at this
    rw [this]
    congr 1
    omega
theorem turn_prim {l : List Bool} (h : l ≠ []) (k : Int) (p : Prim l) : Prim (turn l k) := fun q q0 hq => by
  rw [turn_len]
  refine p q q0 fun z => ?_
  have := hq (z - k)
  rw [turn_cyc h, turn_cyc h, show z - k + q + k = z + q by omega, show z - k + k = z by omega] at this
  exact this
/-! ### forms -/
structure Frm where
  l : List Bool
  low : Int
  m : List Bool
  r : List Bool
def Frm.high (F : Frm) : Int := F.low + (F.m.length : Int)
/-- the sign of a day -/
def Frm.mem (F : Frm) (n : Int) : Bool :=
  if F.high ≤ n then cyc F.r (n - F.high) else if n < F.low then cyc F.l (n - F.low) else F.m.getD (n - F.low).toNat false
theorem Frm.low_high (F : Frm) : F.low ≤ F.high := by unfold Frm.high; omega
theorem Frm.mem_up (F : Frm) {n : Int} (h : F.high ≤ n) : F.mem n = cyc F.r (n - F.high) := if_pos h
theorem Frm.mem_dn (F : Frm) {n : Int} (h : n < F.low) : F.mem n = cyc F.l (n - F.low) := by
  unfold Frm.mem
  rw [if_neg (by have := F.low_high; omega), if_pos h]
theorem Frm.mem_mid (F : Frm) {n : Int} (h : F.low ≤ n) (h' : n < F.high) : F.mem n = F.m.getD (n - F.low).toNat false := by
  unfold Frm.mem
  rw [if_neg (by omega), if_neg (by omega)]
theorem Frm.up (F : Frm) {n : Int} (h : F.high ≤ n) : F.mem (n + F.r.length) = F.mem n := by
  rw [F.mem_up h, F.mem_up (by omega), show n + (F.r.length : Int) - F.high = n - F.high + F.r.length by omega, cyc_per]
theorem Frm.dn (F : Frm) {n : Int} (h : n < F.low) : F.mem (n - F.l.length) = F.mem n := by
  rw [F.mem_dn h, F.mem_dn (by omega)]
  have := cyc_per (l := F.l) (n - F.l.length - F.low)
  rw [← this]
  congr 1
  omega
/-- the least form -/
structure Least (F : Frm) : Prop where
  l0 : F.l ≠ []
  r0 : F.r ≠ []
  pl : Prim F.l
  pr : Prim F.r
  body : (F.m ≠ [] ∧ F.mem (F.high - 1) ≠ F.mem (F.high - 1 + F.r.length) ∧ F.mem F.low ≠ F.mem (F.low - F.l.length)) ∨
    (F.m = [] ∧ F.l = F.r ∧ F.low = 0) ∨ (F.m = [] ∧ F.mem (F.high - 1) ≠ F.mem (F.high - 1 + F.r.length))
/-- f comes again after p days upwards from b on -/
def Up (f : Int → Bool) (p b : Int) : Prop := ∀ n, b ≤ n → f (n + p) = f n
/-- .. downwards below b -/
def Dn (f : Int → Bool) (p b : Int) : Prop := ∀ n, n < b → f (n - p) = f n
theorem Up.nat {f : Int → Bool} {p b : Int} (h0 : 0 < p) (h : Up f p b) : ∀ (k : Nat) (n : Int), b ≤ n → f (n + k * p) = f n
  | 0, n, _ => by simp
  | k + 1, n, hn => by
    have e : n + ((k + 1 : Nat) : Int) * p = n + p + k * p := by
      rw [Int.natCast_add, Int.add_mul]
      simp
      omega
    rw [e, Up.nat h0 h k (n + p) (by omega), h n hn]
theorem Dn.nat {f : Int → Bool} {p b : Int} (h0 : 0 < p) (h : Dn f p b) : ∀ (k : Nat) (n : Int), n < b → f (n - k * p) = f n
  | 0, n, _ => by simp
  | k + 1, n, hn => by
    have e : n - ((k + 1 : Nat) : Int) * p = n - p - k * p := by
      rw [Int.natCast_add, Int.add_mul]
      simp
      omega
    rw [e, Dn.nat h0 h k (n - p) (by omega), h n hn]
theorem Up.mono {f : Int → Bool} {p b c : Int} (h : Up f p b) (hc : b ≤ c) : Up f p c := fun n hn => h n (by omega)
theorem Dn.mono {f : Int → Bool} {p b c : Int} (h : Dn f p b) (hc : c ≤ b) : Dn f p c := fun n hn => h n (by omega)
theorem big_mul {p : Int} (h : 0 < p) (z : Int) : ∃ k : Nat, z ≤ k * p := by
  refine ⟨z.toNat, ?_⟩
  have h1 : (z.toNat : Int) * 1 ≤ z.toNat * p := Int.mul_le_mul_of_nonneg_left (by omega) (by omega)
  omega
/-- a period from some day on of a form's function is one of its right row -/
theorem Frm.per_r (F : Frm) (h0 : F.r ≠ []) {p b : Int} (h : Up F.mem p b) : Per (cyc F.r) p := fun z => by
  have hl := prim_len h0
  obtain ⟨k, hk⟩ := big_mul (p := F.r.length) (by omega) (max (b - F.high - z) 0 + max (-z) 0 + max (-p) 0)
  generalize hK : (k : Int) * F.r.length = K at *
  have e1 := F.mem_up (n := z + K + F.high) (by omega)
  have e2 := F.mem_up (n := z + K + F.high + p) (by omega)
  have e3 := h (z + K + F.high) (by omega)
  rw [e1, e2, show z + K + F.high - F.high = z + K by omega, show z + K + F.high + p - F.high = z + p + K by omega, ← hK, cyc_per.at, cyc_per.at] at e3
  exact e3
theorem Frm.per_l (F : Frm) (h0 : F.l ≠ []) {p b : Int} (h : Dn F.mem p b) : Per (cyc F.l) p := fun z => by
  have hl := prim_len h0
  obtain ⟨k, hk⟩ := big_mul (p := F.l.length) (by omega) (max (F.low - b + z) 0 + max z 0 + max p 0 + max (-p) 0 + 1 + max (F.low - b + z + p) 0)
  generalize hK : (k : Int) * F.l.length = K at *
  have e1 := F.mem_dn (n := z + p - K + F.low) (by omega)
  have e2 := F.mem_dn (n := z + p - K + F.low - p) (by omega)
  have e3 := h (z + p - K + F.low) (by omega)
  have e4 : ∀ y : Int, cyc F.l (y - K) = cyc F.l y := fun y => by
    have := cyc_per (l := F.l) |>.at (y - K) k
    rw [hK, show y - K + K = y by omega] at this
    exact this.symm
  rw [e1, e2, show z + p - K + F.low - F.low = z + p - K by omega, show z + p - K + F.low - p - F.low = z - K by omega, e4, e4] at e3
  exact e3.symm
theorem Least.r_le {F : Frm} (L : Least F) {p b : Int} (h0 : 0 < p) (h : Up F.mem p b) : (F.r.length : Int) ≤ p := L.pr p h0 (F.per_r L.r0 h)
theorem Least.l_le {F : Frm} (L : Least F) {p b : Int} (h0 : 0 < p) (h : Dn F.mem p b) : (F.l.length : Int) ≤ p := L.pl p h0 (F.per_l L.l0 h)
theorem Prim.dvd {l : List Bool} (h0 : l ≠ []) (h : Prim l) {p : Int} (hp : Per (cyc l) p) : p % l.length = 0 := by
  have hl := prim_len h0
  have m0 := Int.emod_nonneg p (show (l.length : Int) ≠ 0 by omega)
  have m1 := Int.emod_lt_of_pos p (show (0 : Int) < l.length by omega)
  rcases Int.lt_or_eq_of_le m0 with z | z
  · have := h _ z (cyc_per.mod hp)
    omega
  · exact z.symm
theorem Least.r_dvd {F : Frm} (L : Least F) {p b : Int} (h : Up F.mem p b) : p % F.r.length = 0 := L.pr.dvd L.r0 (F.per_r L.r0 h)
theorem Least.l_dvd {F : Frm} (L : Least F) {p b : Int} (h : Dn F.mem p b) : p % F.l.length = 0 := L.pl.dvd L.l0 (F.per_l L.l0 h)
theorem Least.mono_up {F : Frm} (L : Least F) {p b : Int} (h0 : 0 < p) (h : Up F.mem p b) : Up F.mem F.r.length b := fun n hn => by
  have hl := prim_len L.r0
  obtain ⟨k, hk⟩ := big_mul h0 (max (F.high - n) 0)
  have e1 := h.nat h0 k n hn
  have e2 := h.nat h0 k (n + F.r.length) (by omega)
  have e3 := F.up (n := n + k * p) (by omega)
  rw [← e1, ← e2, ← e3]
  congr 1
  omega
theorem Least.mono_dn {F : Frm} (L : Least F) {p b : Int} (h0 : 0 < p) (h : Dn F.mem p b) : Dn F.mem F.l.length b := fun n hn => by
  have hl := prim_len L.l0
  obtain ⟨k, hk⟩ := big_mul h0 (max (n - F.low + 1) 0)
  have e1 := h.nat h0 k n hn
  have e2 := h.nat h0 k (n - F.l.length) (by omega)
  have e3 := F.dn (n := n - k * p) (by omega)
  rw [← e1, ← e2, ← e3]
  congr 1
  omega
/-- all of it comes again -/
theorem Least.all_per {F : Frm} (L : Least F) (h : F.m = [] ∧ F.l = F.r ∧ F.low = 0) : ∀ n, F.mem n = cyc F.r n := fun n => by
  obtain ⟨hm, hl, h0⟩ := h
  have hh : F.high = 0 := by unfold Frm.high; rw [hm, h0]; rfl
  rcases Int.lt_or_le n 0 with q | q
  · rw [F.mem_dn (by omega), hl, h0]
    congr 1
    omega
  · rw [F.mem_up (by omega), hh]
    congr 1
    omega
theorem Least.up_high {F : Frm} (L : Least F) : Up F.mem F.r.length F.high := fun _ hn => F.up hn
theorem Least.dn_low {F : Frm} (L : Least F) : Dn F.mem F.l.length F.low := fun _ hn => F.dn hn
/-- the odd day at the upper end -/
theorem Least.odd {F : Frm} (L : Least F) (h : ¬ (F.m = [] ∧ F.l = F.r ∧ F.low = 0)) : F.mem (F.high - 1) ≠ F.mem (F.high - 1 + F.r.length) := by
  rcases L.body with z | z | z
  · exact z.2.1
  · exact absurd z h
  · exact z.2
/-- one function has one least form -/
theorem Least.unique {F G : Frm} (L : Least F) (M : Least G) (h : ∀ n, F.mem n = G.mem n) : F = G := by
  have hf : F.mem = G.mem := funext h
  have lr := prim_len L.r0
  have lr' := prim_len M.r0
  have ll := prim_len L.l0
  have ll' := prim_len M.l0
  have e1 : (F.r.length : Int) = G.r.length := by
    have a := L.r_le (p := G.r.length) (b := G.high) (by omega) (by rw [hf]; exact M.up_high)
    have b := M.r_le (p := F.r.length) (b := F.high) (by omega) (by rw [← hf]; exact L.up_high)
    omega
  have e2 : (F.l.length : Int) = G.l.length := by
    have a := L.l_le (p := G.l.length) (b := G.low) (by omega) (by rw [hf]; exact M.dn_low)
    have b := M.l_le (p := F.l.length) (b := F.low) (by omega) (by rw [← hf]; exact L.dn_low)
    omega
  have rows : F.low = G.low → F.high = G.high → F = G := fun a b => by
    have r : F.r = G.r := cyc_ext (by omega) fun z => by
      obtain ⟨k, hk⟩ := big_mul (p := F.r.length) (by omega) (max (-z) 0)
      have x := F.mem_up (n := z + k * F.r.length + F.high) (by omega)
      have y := G.mem_up (n := z + k * F.r.length + F.high) (by omega)
      rw [h, y, ← b, show z + k * (F.r.length : Int) + F.high - F.high = z + k * F.r.length by omega, cyc_per.at, e1, cyc_per.at] at x
      exact x.symm
    have l : F.l = G.l := cyc_ext (by omega) fun z => by
      obtain ⟨k, hk⟩ := big_mul (p := F.l.length) (by omega) (max z 0 + 1)
      have x := F.mem_dn (n := z - k * F.l.length + F.low) (by omega)
      have y := G.mem_dn (n := z - k * F.l.length + F.low) (by omega)
      have s1 := cyc_per (l := F.l) |>.at (z - k * F.l.length) k
      have s2 := cyc_per (l := G.l) |>.at (z - k * G.l.length) k
      rw [show z - k * (F.l.length : Int) + k * F.l.length = z by omega] at s1
      rw [show z - k * (G.l.length : Int) + k * G.l.length = z by omega] at s2
      rw [h, y, ← a, show z - k * (F.l.length : Int) + F.low - F.low = z - k * F.l.length by omega] at x
      rw [s1, s2, ← x, e2]
    have ml : F.m.length = G.m.length := by
      have p := b
      unfold Frm.high at p
      omega
    have m : F.m = G.m := getD_ext ml fun i hi => by
      have p : F.high = F.low + F.m.length := rfl
      have p' : G.high = G.low + G.m.length := rfl
      have x := F.mem_mid (n := F.low + i) (by omega) (by omega)
      have y := G.mem_mid (n := F.low + i) (by omega) (by omega)
      rw [h, y, ← a, show (F.low + (i : Int) - F.low).toNat = i by omega] at x
      exact x.symm
    cases F
    cases G
    simp only at a r l m
    subst a
    subst r
    subst l
    subst m
    rfl
  by_cases pF : F.m = [] ∧ F.l = F.r ∧ F.low = 0
  · have aF := L.all_per pF
    by_cases pG : G.m = [] ∧ G.l = G.r ∧ G.low = 0
    · refine rows (by rw [pF.2.2, pG.2.2]) ?_
      unfold Frm.high
      rw [pF.2.2, pG.2.2, pF.1, pG.1]
    · exfalso
      refine M.odd pG ?_
      rw [← h, ← h, aF, aF, ← e1, cyc_per]
  · by_cases pG : G.m = [] ∧ G.l = G.r ∧ G.low = 0
    · exfalso
      refine L.odd pF ?_
      rw [h, h, M.all_per pG, M.all_per pG, e1, cyc_per]
    · have oF := L.odd pF
      have oG := M.odd pG
      have hh : F.high = G.high := by
        rcases Int.lt_trichotomy F.high G.high with z | z | z
        · exfalso
          refine oG ?_
          have := L.up_high (G.high - 1) (by omega)
          rw [h, h, e1] at this
          exact this.symm
        · exact z
        · exfalso
          refine oF ?_
          have := M.up_high (F.high - 1) (by omega)
          rw [← h, ← h, ← e1] at this
          exact this.symm
      refine rows ?_ hh
      have nF := F.low_high
      have nG := G.low_high
      have mF : ∀ {F : Frm}, F.m ≠ [] → F.low < F.high := fun {F} z => by
        have := prim_len z
        unfold Frm.high
        omega
      have mF0 : ∀ {F : Frm}, F.m = [] → F.low = F.high := fun {F} z => by
        unfold Frm.high
        rw [z]
        simp
      have cmp : ∀ {F G : Frm}, (∀ n, F.mem n = G.mem n) → (F.l.length : Int) = G.l.length → F.mem F.low ≠ F.mem (F.low - F.l.length) → Least G → G.low ≤ F.low := fun {F G} h e o M => by
        rcases Int.lt_or_le F.low G.low with z | z
        · exfalso
          refine o ?_
          have := M.dn_low F.low z
          rw [← h, ← h, ← e] at this
          exact this.symm
        · exact z
      have bF : F.m = [] ∨ (F.m ≠ [] ∧ F.mem F.low ≠ F.mem (F.low - F.l.length)) := by
        rcases L.body with z | z | z
        · exact .inr ⟨z.1, z.2.2⟩
        · exact .inl z.1
        · exact .inl z.1
      have bG : G.m = [] ∨ (G.m ≠ [] ∧ G.mem G.low ≠ G.mem (G.low - G.l.length)) := by
        rcases M.body with z | z | z
        · exact .inr ⟨z.1, z.2.2⟩
        · exact .inl z.1
        · exact .inl z.1
      rcases bF with x | x
      · rcases bG with y | y
        · rw [mF0 x, mF0 y, hh]
        · have q := cmp (fun n => (h n).symm) e2.symm y.2 L
          have := mF y.1
          have := mF0 x
          omega
      · rcases bG with y | y
        · have q := cmp h e2 x.2 M
          have := mF x.1
          have := mF0 y
          omega
        · have q := cmp h e2 x.2 M
          have q' := cmp (fun n => (h n).symm) e2.symm y.2 L
          omega
end Day
end
section
set_option Elab.async false
namespace Day
/-- bounds of a least form from what comes again -/
theorem Least.high_le {F : Frm} (L : Least F) {p b : Int} (p0 : 0 < p) (hb : 0 ≤ b) (h : Up F.mem p b) : F.high ≤ b := by
  by_cases pF : F.m = [] ∧ F.l = F.r ∧ F.low = 0
  · unfold Frm.high
    rw [pF.1, pF.2.2]
    simpa using hb
  · have u := L.mono_up p0 h
    have o := L.odd pF
    rcases Int.lt_or_le b F.high with z | z
    · exact absurd (u (F.high - 1) (by omega)).symm o
    · exact z
theorem Least.low_ge {F : Frm} (L : Least F) {p b : Int} (p0 : 0 < p) (hb : b ≤ 0) (h : Dn F.mem p b) : b - F.l.length - F.r.length ≤ F.low := by
  have d := L.mono_dn p0 h
  have ll := prim_len L.l0
  have lr := prim_len L.r0
  by_cases pF : F.m = [] ∧ F.l = F.r ∧ F.low = 0
  · omega
  · rcases Int.lt_or_le F.low (b - F.l.length - F.r.length) with z | z
    · exfalso
      have hlh := F.low_high
      rcases L.body with y | y | y
      · -- a middle: the day low is odd
        refine y.2.2 ?_
        exact (d F.low (by omega)).symm
      · exact pF y
      · have e : F.high = F.low := by unfold Frm.high; rw [y.1]; simp
        refine y.2 ?_
        have h1 := d (F.high - 1 + F.l.length) (by omega)
        have h2 := F.up (n := F.high - 1 + F.l.length) (by omega)
        have h3 := d (F.high - 1 + F.r.length + F.l.length) (by omega)
        rw [show F.high - 1 + (F.l.length : Int) - F.l.length = F.high - 1 by omega] at h1
        rw [show F.high - 1 + (F.r.length : Int) + F.l.length - F.l.length = F.high - 1 + F.r.length by omega] at h3
        rw [h1, h3, ← h2]
        congr 1
        omega
    · exact z
theorem le_of_dvd {p q : Int} (h0 : 0 < p) (hq : 0 ≤ q) (h : p % q = 0) : q ≤ p := by
  rcases Int.lt_or_le p q with z | z
  · rw [Int.emod_eq_of_lt (by omega) z] at h
    omega
  · exact z
/-- f comes again after p days from b days off 0 on -/
def Fit (f : Int → Bool) (p b : Int) : Prop := Up f p b ∧ Dn f p (-b)
theorem Fit.form {F : Frm} (L : Least F) {p b : Int} (p0 : 0 < p) (hb : 0 ≤ b) (h : Fit F.mem p b) :
    (F.l.length : Int) ≤ p ∧ (F.r.length : Int) ≤ p ∧ p % F.l.length = 0 ∧ p % F.r.length = 0 ∧ F.high ≤ b ∧ -b - 2 * p ≤ F.low := by
  have h1 := L.l_le p0 h.2
  have h2 := L.r_le p0 h.1
  have h3 := L.low_ge p0 (by omega) h.2
  exact ⟨h1, h2, L.l_dvd h.2, L.r_dvd h.1, L.high_le p0 hb h.1, by omega⟩
/-! ### least_form, stage by stage -/
theorem root_pre {l s : List Bool} (h : l ≠ []) (hs : s ≠ []) (e : ∀ z, cyc s z = cyc l z) (p : Prim s) : s ≠ [] ∧ Prim s ∧ ∀ z, cyc s z = cyc l z := ⟨hs, p, e⟩
/-- a row's root -/
structure IsRoot (l s : List Bool) : Prop where
  ne : s ≠ []
  pr : Prim s
  eq : ∀ z, cyc s z = cyc l z
theorem isRoot_self {l : List Bool} (h : l ≠ []) (hb : ∀ t, 1 ≤ t → t < l.length → ¬ Root l t) : IsRoot l l := ⟨h, root_none h hb, fun _ => rfl⟩
theorem isRoot_take {l : List Bool} {s : Nat} (h0 : 1 ≤ s) (hs : s < l.length) (h : Root l s) (hb : ∀ t, 1 ≤ t → t < s → ¬ Root l t) : IsRoot l (l.take s) :=
  ⟨fun e => by have : (l.take s).length = s := by rw [List.length_take]; omega
               rw [e] at this; simp at this; omega, root_some h0 hs h hb, fun z => h.cyc h0 (by omega) z⟩
/-- the right side begins j days earlier -/
theorem mem_back {l m r : List Bool} {low : Int} (r0 : r ≠ []) {j : Nat} (hj : j ≤ m.length) (h : ∀ i, i < j → m.getD (m.length - 1 - i) false = cyc r (-1 - (i : Int))) (n : Int) :
    (Frm.mk l low (m.take (m.length - j)) (turn r (-(j : Int)))).mem n = (Frm.mk l low m r).mem n := by
  have hl : (m.take (m.length - j)).length = m.length - j := by rw [List.length_take]; omega
  have hh : (Frm.mk l low (m.take (m.length - j)) (turn r (-(j : Int)))).high = low + m.length - j := by unfold Frm.high; simp only [hl]; omega
  have hh' : (Frm.mk l low m r).high = low + m.length := rfl
  rcases Int.lt_or_le n low with q | q
  · rw [Frm.mem_dn _ (by exact q), Frm.mem_dn _ (by exact q)]
  · rcases Int.lt_or_le n (low + m.length - j) with q2 | q2
    · rw [Frm.mem_mid _ (by exact q) (by rw [hh]; exact q2), Frm.mem_mid _ (by exact q) (by rw [hh']; omega)]
      exact take_getD _ (by show (n - low).toNat < _; omega)
    · rw [Frm.mem_up _ (by rw [hh]; exact q2), hh]
      show cyc (turn r _) _ = _
      rw [turn_cyc r0]
      rcases Int.lt_or_le n (low + m.length) with q3 | q3
      · rw [Frm.mem_mid _ (by exact q) (by rw [hh']; exact q3)]
        have := h (low + m.length - 1 - n).toNat (by omega)
        show _ = m.getD (n - low).toNat false
        rw [show (n - low).toNat = m.length - 1 - (low + m.length - 1 - n).toNat by omega, this]
        congr 1
        omega
      · rw [Frm.mem_up _ (by rw [hh']; exact q3), hh']
        show cyc r _ = cyc r _
        congr 1
        omega
/-- the left side ends j days later -/
theorem mem_fore {l m r : List Bool} {low : Int} (l0 : l ≠ []) {j : Nat} (hj : j ≤ m.length) (h : ∀ i, i < j → m.getD i false = cyc l (i : Int)) (n : Int) :
    (Frm.mk (turn l j) (low + j) (m.drop j) r).mem n = (Frm.mk l low m r).mem n := by
  have hh : (Frm.mk (turn l j) (low + j) (m.drop j) r).high = low + m.length := by
    unfold Frm.high
    simp only [List.length_drop]
    omega
  have hh' : (Frm.mk l low m r).high = low + m.length := rfl
  rcases Int.lt_or_le n (low + m.length) with q | q
  · rcases Int.lt_or_le n (low + j) with q2 | q2
    · rw [Frm.mem_dn _ (by exact q2)]
      show cyc (turn l j) _ = _
      rw [turn_cyc l0]
      rcases Int.lt_or_le n low with q3 | q3
      · rw [Frm.mem_dn _ (by exact q3)]
        show cyc l _ = cyc l _
        congr 1
        show n - (low + (j : Int)) + j = n - low
        omega
      · rw [Frm.mem_mid _ (by exact q3) (by rw [hh']; exact q)]
        show _ = m.getD (n - low).toNat false
        rw [h _ (show (n - low).toNat < j by omega)]
        congr 1
        show n - (low + (j : Int)) + j = ((n - low).toNat : Int)
        omega
    · rw [Frm.mem_mid _ (by exact q2) (by rw [hh]; exact q), Frm.mem_mid _ (by show low ≤ n; omega) (by rw [hh']; exact q)]
      show (m.drop j).getD (n - (low + j)).toNat false = m.getD (n - low).toNat false
      rw [List.getD_eq_getElem?_getD, List.getElem?_drop, ← List.getD_eq_getElem?_getD]
      congr 1
      omega
  · rw [Frm.mem_up _ (by rw [hh]; exact q), Frm.mem_up _ (by rw [hh']; exact q), hh, hh']
/-- both sides moved where there is no middle -/
theorem mem_bare {l r : List Bool} {low : Int} (l0 : l ≠ []) (r0 : r ≠ []) {j : Nat} (h : ∀ i, i < j → cyc l (-1 - (i : Int)) = cyc r (-1 - (i : Int))) (n : Int) :
    (Frm.mk (turn l (-(j : Int))) (low - j) [] (turn r (-(j : Int)))).mem n = (Frm.mk l low [] r).mem n := by
  have hh : (Frm.mk (turn l (-(j : Int))) (low - j) [] (turn r (-(j : Int)))).high = low - j := by unfold Frm.high; simp
  have hh' : (Frm.mk l low [] r).high = low := by unfold Frm.high; simp
  rcases Int.lt_or_le n (low - j) with q | q
  · rw [Frm.mem_dn _ (by exact q), Frm.mem_dn _ (by show n < low; omega)]
    show cyc (turn l _) _ = cyc l _
    rw [turn_cyc l0]
    congr 1
    show n - (low - (j : Int)) + -(j : Int) = n - low
    omega
  · rw [Frm.mem_up _ (by rw [hh]; exact q), hh]
    show cyc (turn r _) _ = _
    rw [turn_cyc r0]
    rcases Int.lt_or_le n low with q2 | q2
    · rw [Frm.mem_dn _ (by exact q2)]
      show _ = cyc l (n - low)
      have := h (low - 1 - n).toNat (by omega)
      rw [show -1 - (((low - 1 - n).toNat : Nat) : Int) = n - low by omega] at this
      rw [this]
      congr 1
      omega
    · rw [Frm.mem_up _ (by rw [hh']; exact q2), hh']
      show cyc r _ = cyc r _
      congr 1
      omega
/-- two least rows that are unlike part somewhere below -/
theorem bare_part {l r : List Bool} (l0 : l ≠ []) (r0 : r ≠ []) (pl : Prim l) (pr : Prim r) (h : l ≠ r) : ∃ i : Nat, i < l.length * r.length ∧ cyc l (-1 - (i : Int)) ≠ cyc r (-1 - (i : Int)) := by
  have ll := prim_len l0
  have lr := prim_len r0
  refine Classical.byContradiction fun no => h ?_
  have all : ∀ i : Nat, i < l.length * r.length → cyc l (-1 - (i : Int)) = cyc r (-1 - (i : Int)) := fun i hi => Classical.byContradiction fun q => no ⟨i, hi, q⟩
  have N0 : (0 : Int) < ((l.length * r.length : Nat) : Int) := by
    have := Nat.mul_pos ll lr
    omega
  have eqf : ∀ z : Int, cyc l z = cyc r z := fun z => by
    have m0 := Int.emod_nonneg (-1 - z) (show ((l.length * r.length : Nat) : Int) ≠ 0 by omega)
    have m1 := Int.emod_lt_of_pos (-1 - z) N0
    have e := all ((-1 - z) % ((l.length * r.length : Nat) : Int)).toNat (by omega)
    rw [Int.toNat_of_nonneg m0] at e
    have e2 : (-1 - z) % ((l.length * r.length : Nat) : Int) = -1 - z - (-1 - z) / ((l.length * r.length : Nat) : Int) * ((l.length * r.length : Nat) : Int) := by
      have := Int.mul_ediv_add_emod (-1 - z) ((l.length * r.length : Nat) : Int)
      rw [Int.mul_comm] at this
      omega
    generalize (-1 - z) / ((l.length * r.length : Nat) : Int) = K at e2
    have a1 : cyc l z = cyc l (z + K * r.length * l.length) := (cyc_per.at z (K * r.length)).symm
    have a2 : cyc r z = cyc r (z + K * l.length * r.length) := (cyc_per.at z (K * l.length)).symm
    have k1 : K * ((l.length * r.length : Nat) : Int) = K * r.length * l.length := by
      rw [Int.natCast_mul, Int.mul_assoc, Int.mul_comm (r.length : Int)]
    have k2 : K * ((l.length * r.length : Nat) : Int) = K * l.length * r.length := by
      rw [Int.natCast_mul, Int.mul_assoc]
    rw [e2] at e
    rw [a1, a2, ← k1, ← k2]
    rw [show -1 - (-1 - z - K * ((l.length * r.length : Nat) : Int)) = z + K * ((l.length * r.length : Nat) : Int) by omega] at e
    exact e
  have hf : cyc l = cyc r := funext eqf
  refine cyc_ext ?_ eqf
  have a := pl r.length (by omega) (by rw [hf]; exact cyc_per)
  have b := pr l.length (by omega) (by rw [← hf]; exact cyc_per)
  omega
/-- what least_form gives, by its ways -/
theorem least_bare_all {r : List Bool} (low : Int) (r0 : r ≠ []) (pr : Prim r) :
    Least ⟨turn r (-low), 0, [], turn r (-low)⟩ ∧ ∀ n, (Frm.mk (turn r (-low)) 0 [] (turn r (-low))).mem n = (Frm.mk r low [] r).mem n := by
  refine ⟨⟨turn_ne r0, turn_ne r0, turn_prim r0 _ pr, turn_prim r0 _ pr, .inr (.inl ⟨rfl, rfl, rfl⟩)⟩, fun n => ?_⟩
  have hh : (Frm.mk (turn r (-low)) 0 [] (turn r (-low))).high = 0 := by unfold Frm.high; simp
  have hh' : (Frm.mk r low [] r).high = low := by unfold Frm.high; simp
  have e1 : (Frm.mk (turn r (-low)) 0 [] (turn r (-low))).mem n = cyc r (n - low) := by
    rcases Int.lt_or_le n 0 with q | q
    · rw [Frm.mem_dn _ (by exact q)]
      show cyc (turn r _) _ = _
      rw [turn_cyc r0]
      congr 1
      show n - 0 + -low = n - low
      omega
    · rw [Frm.mem_up _ (by rw [hh]; exact q), hh]
      show cyc (turn r _) _ = _
      rw [turn_cyc r0]
      congr 1
      omega
  rw [e1]
  rcases Int.lt_or_le n low with q | q
  · rw [Frm.mem_dn _ (by exact q)]
  · rw [Frm.mem_up _ (by rw [hh']; exact q), hh']
theorem least_bare {l r : List Bool} (low : Int) (l0 : l ≠ []) (r0 : r ≠ []) (pl : Prim l) (pr : Prim r) {j : Nat}
    (h : ∀ i, i < j → cyc l (-1 - (i : Int)) = cyc r (-1 - (i : Int))) (hj : cyc l (-1 - (j : Int)) ≠ cyc r (-1 - (j : Int))) :
    Least ⟨turn l (-(j : Int)), low - j, [], turn r (-(j : Int))⟩ ∧ ∀ n, (Frm.mk (turn l (-(j : Int))) (low - j) [] (turn r (-(j : Int)))).mem n = (Frm.mk l low [] r).mem n := by
  refine ⟨⟨turn_ne l0, turn_ne r0, turn_prim l0 _ pl, turn_prim r0 _ pr, .inr (.inr ⟨rfl, ?_⟩)⟩, mem_bare l0 r0 h⟩
  have hh : (Frm.mk (turn l (-(j : Int))) (low - j) [] (turn r (-(j : Int)))).high = low - j := by unfold Frm.high; simp
  have lr := prim_len r0
  rw [Frm.mem_dn _ (show _ < low - (j : Int) by rw [hh]; omega), Frm.mem_up _ (by rw [hh]; show _ ≤ low - j - 1 + ((turn r _).length : Int); rw [turn_len]; omega), hh]
  show cyc (turn l _) _ ≠ cyc (turn r _) _
  rw [turn_cyc l0, turn_cyc r0, turn_len]
  show cyc l (low - j - 1 - (low - j) + -(j : Int)) ≠ cyc r (low - j - 1 + r.length - (low - j) + -(j : Int))
  rw [show low - (j : Int) - 1 - (low - j) + -(j : Int) = -1 - j by omega, show low - (j : Int) - 1 + r.length - (low - j) + -(j : Int) = -1 - j + r.length by omega, cyc_per]
  exact hj
/-- with a middle whose last day is odd -/
theorem least_mid {l m r : List Bool} (low : Int) (l0 : l ≠ []) (r0 : r ≠ []) (pl : Prim l) (pr : Prim r) (m0 : m ≠ []) (hr : m.getD (m.length - 1) false ≠ cyc r (-1)) {j : Nat} (hj : j ≤ m.length)
    (h : ∀ i, i < j → m.getD i false = cyc l (i : Int)) (he : j = m.length ∨ m.getD j false ≠ cyc l (j : Int)) :
    Least ⟨turn l j, low + j, m.drop j, r⟩ ∧ ∀ n, (Frm.mk (turn l j) (low + j) (m.drop j) r).mem n = (Frm.mk l low m r).mem n := by
  have lm := prim_len m0
  have lr := prim_len r0
  have ll := prim_len l0
  have hm := mem_fore (low := low) (r := r) l0 hj h
  have hh : (Frm.mk (turn l j) (low + j) (m.drop j) r).high = low + m.length := by
    unfold Frm.high
    simp only [List.length_drop]
    omega
  have hh' : (Frm.mk l low m r).high = low + m.length := rfl
  have odd : (Frm.mk (turn l j) (low + j) (m.drop j) r).mem (low + m.length - 1) ≠ (Frm.mk (turn l j) (low + j) (m.drop j) r).mem (low + m.length - 1 + r.length) := by
    rw [hm, hm, Frm.mem_mid _ (show low ≤ _ by omega) (by rw [hh']; omega), Frm.mem_up _ (by rw [hh']; omega), hh']
    show m.getD (low + m.length - 1 - low).toNat false ≠ cyc r _
    rw [show (low + (m.length : Int) - 1 - low).toNat = m.length - 1 by omega, show low + (m.length : Int) - 1 + r.length - (low + m.length) = -1 + r.length by omega, cyc_per]
    exact hr
  refine ⟨⟨turn_ne l0, r0, turn_prim l0 _ pl, pr, ?_⟩, hm⟩
  rw [hh]
  by_cases q : j = m.length
  · refine .inr (.inr ⟨?_, odd⟩)
    show m.drop j = []
    rw [q]
    exact List.drop_length
  · refine .inl ⟨fun e => ?_, odd, ?_⟩
    · have : (m.drop j).length = 0 := by rw [show m.drop j = [] from e]; rfl
      rw [List.length_drop] at this
      omega
    · have hne := he.resolve_left q
      rw [hm, hm]
      show (Frm.mk l low m r).mem (low + j) ≠ (Frm.mk l low m r).mem (low + j - ((turn l j).length : Int))
      rw [turn_len, Frm.mem_mid _ (show low ≤ _ by omega) (by rw [hh']; omega)]
      show m.getD (low + j - low).toNat false ≠ _
      rw [show (low + (j : Int) - low).toNat = j by omega]
      have e2 : (Frm.mk l low m r).mem (low + j - (l.length : Int)) = cyc l j := by
        rcases Int.lt_or_le (low + j - (l.length : Int)) low with z | z
        · rw [Frm.mem_dn _ (by exact z)]
          show cyc l (low + j - l.length - low) = _
          have := cyc_per (l := l) (low + j - l.length - low)
          rw [← this]
          congr 1
          omega
        · rw [Frm.mem_mid _ (by exact z) (by rw [hh']; omega)]
          show m.getD (low + j - l.length - low).toNat false = _
          rw [h _ (show (low + (j : Int) - l.length - low).toNat < j by omega)]
          have := cyc_per (l := l) ((low + (j : Int) - l.length - low).toNat : Int)
          rw [← this]
          congr 1
          omega
      rw [e2]
      exact hne
/-- a form from a window of a function's signs -/
theorem form_of {f : Int → Bool} {row : List Bool} {low : Int} {a b : Nat} (a0 : 0 < a) (b0 : 0 < b) (hl : a + b ≤ row.length) (h : ∀ i, i < row.length → row.getD i false = f (low - a + i))
    (hu : Up f b (low + (row.length - a - b : Nat))) (hd : Dn f a low) (n : Int) : (Frm.mk (row.take a) low ((row.drop a).take (row.length - a - b)) (row.drop (row.length - b))).mem n = f n := by
  have l1 : (row.take a).length = a := by rw [List.length_take]; omega
  have l2 : ((row.drop a).take (row.length - a - b)).length = row.length - a - b := by rw [List.length_take, List.length_drop]; omega
  have l3 : (row.drop (row.length - b)).length = b := by rw [List.length_drop]; omega
  have hh : (Frm.mk (row.take a) low ((row.drop a).take (row.length - a - b)) (row.drop (row.length - b))).high = low + (row.length - a - b : Nat) := by unfold Frm.high; simp only [l2]
  rcases Int.lt_or_le n low with q | q
  · rw [Frm.mem_dn _ (by exact q)]
    show cyc (row.take a) (n - low) = f n
    have m0 := Int.emod_nonneg (n - low) (show (a : Int) ≠ 0 by omega)
    have m1 := Int.emod_lt_of_pos (n - low) (show (0 : Int) < a by omega)
    have e1 : cyc (row.take a) (n - low) = row.getD ((n - low) % (a : Int)).toNat false := by
      unfold cyc
      rw [l1]
      exact take_getD _ (by omega)
    rw [e1, h _ (by omega), Int.toNat_of_nonneg m0]
    have e2 := Int.mul_ediv_add_emod (n - low) (a : Int)
    have e3 : 0 ≤ -((n - low) / (a : Int)) - 1 := by
      have := Int.ediv_neg_of_neg_of_pos (show n - low < 0 by omega) (show (0 : Int) < a by omega)
      omega
    have e4 := hd.nat (by omega) (-((n - low) / (a : Int)) - 1).toNat (low - a + (n - low) % (a : Int)) (by omega)
    rw [← e4, Int.toNat_of_nonneg e3]
    congr 1
    rw [Int.sub_mul, Int.neg_mul, Int.mul_comm ((n - low) / (a : Int))]
    omega
  · rcases Int.lt_or_le n (low + (row.length - a - b : Nat)) with q2 | q2
    · rw [Frm.mem_mid _ (by exact q) (by rw [hh]; exact q2)]
      show ((row.drop a).take (row.length - a - b)).getD (n - low).toNat false = f n
      rw [take_getD _ (by omega), List.getD_eq_getElem?_getD, List.getElem?_drop, ← List.getD_eq_getElem?_getD, h _ (by omega)]
      congr 1
      omega
    · rw [Frm.mem_up _ (by rw [hh]; exact q2), hh]
      show cyc (row.drop (row.length - b)) (n - (low + (row.length - a - b : Nat))) = f n
      generalize hz : n - (low + ((row.length - a - b : Nat) : Int)) = z
      have m0 := Int.emod_nonneg z (show (b : Int) ≠ 0 by omega)
      have m1 := Int.emod_lt_of_pos z (show (0 : Int) < b by omega)
      have e1 : cyc (row.drop (row.length - b)) z = row.getD (row.length - b + (z % (b : Int)).toNat) false := by
        unfold cyc
        rw [l3, List.getD_eq_getElem?_getD, List.getElem?_drop, ← List.getD_eq_getElem?_getD]
      rw [e1, h _ (by omega)]
      have e2 := Int.mul_ediv_add_emod z (b : Int)
      have e3 : 0 ≤ z / (b : Int) := Int.ediv_nonneg (by omega) (by omega)
      have e4 := hu.nat (by omega) (z / (b : Int)).toNat (low - a + ((row.length - b + (z % (b : Int)).toNat : Nat) : Int)) (by omega)
      rw [← e4, Int.toNat_of_nonneg e3]
      congr 1
      rw [Int.mul_comm (z / (b : Int))]
      omega
end Day
end
section
set_option Elab.async false
set_option linter.all false
set_option maxRecDepth 100000
set_option maxHeartbeats 2000000
/-! own operators, texts, classmethods: rules that the hand layer lacks -/
namespace Od
open PySem PySem.Spec PyProof.Rows L2
section
variable {X : Cx} {pins : List (Addr × Obj)} {σ : L2.St} {H : Hp} {s : Shared} {CX : CXT} {k : Nat} {f C : Addr} {sp : Sp} {E : XK} {Q : VK} {us : List Value} {vs : List V} {A : Around}
theorem vr1 (a : Addr) : Vals [V.ref a] [Value.ref a] := .cons rfl .nil
theorem vr2 (a b : Addr) : Vals [V.ref a, V.ref b] [Value.ref a, Value.ref b] := .cons rfl (.cons rfl .nil)
theorem vrx {x : V} {v : Value} (a : Addr) (r : RelV x v) : Vals [V.ref a, x] [Value.ref a, v] := .cons rfl (.cons r .nil)
theorem rvi (n : Int) (t : Tok) : RelV (.int n) (Value.int n t) := ⟨t, rfl⟩
/-- a def called somewhere below the running body -/
theorem fn_at (hA : A.frames = X.A.frames) (hr : Room k A) (F : FnR X.prog X.w X.K X.mg X.base CX k f sp) (hx : Passes CX X E) (I : Inv X pins σ H s) (r : Vals vs us) (h : sp vs H Q E) :
    wpAny (model X.prog X.w) A (call (.ref f) us) (EP X pins σ Q) X.xe s := by
  have e := I.env0
  have e0 : Env0 X.prog X.w X.K X.mg X.base A X.stack s H := ⟨by rw [hA]; exact e.frames, e.mod, e.bs, e.bsz, e.funs, e.frf, e.hok, e.bare⟩
  refine wpAny_call (codeAny_mono (F A X.stack s H us vs Q E hr e0 r h) fun r s' hq => ?_)
  cases r with
  | error e => exact hx pins σ H s e s' I hq
  | ok fl =>
    cases fl with
    | ret u => exact I.after hq
    | next => exact False.elim hq
    | brk => exact False.elim hq
    | cont => exact False.elim hq
theorem cmp_back {u : Value} {s' : Shared} (h : EP X pins σ Q u s') : PySem.W.CmpBack (EP X pins σ Q) u s' := by
  obtain ⟨v, H', I, r, q⟩ := id h
  cases v with
  | non => cases r; exact h
  | bl b => cases r; exact h
  | int i => obtain ⟨t, rfl⟩ := r; exact h
  | str x => obtain ⟨t, rfl⟩ := r; exact h
  | byt b => obtain ⟨t, rfl⟩ := r; exact h
  | flt b => obtain ⟨t, rfl⟩ := r; exact h
  | ref a => cases r; exact h
  | ty n => cases r; exact h
theorem inst_of {a dx : Addr} {fs : List (Str × V)} (I : Inv X pins σ H s) (h : H a = some (.ins C dx fs)) : ∃ od, PySem.W.InstAt s.heap a (PySem.W.instObj C dx) C (some od) := by
  obtain ⟨mA, J, _⟩ := ins_get I.hok h
  obtain ⟨od, J, _⟩ := J.look
  exact ⟨od, J⟩
/-- what the text says of a special method: class C, name nm, def f -/
structure Sm (K : PySem.W.Frag) (C : Addr) (nm : Str) (f : Addr) : Prop where
  at_ : PySem.W.findIn K (.ref C) nm = some (some (.ref f))
  fn : PySem.W.isFn K (.ref f) = true
/-- x op y, both instances of C -/
def rOwn (C : Addr) (sp : Sp) (E : XK) : R2 := fun x y H Q => ∃ a b dx dy fs gs, x = .ref a ∧ y = .ref b ∧ H a = some (.ins C dx fs) ∧ H b = some (.ins C dy gs) ∧ sp [.ref a, .ref b] H Q E
theorem op_own {op : Operator} (hc : PySem.W.selfFirst X.K C = true) (S : Sm X.K C (PySem.dunder op.info.2) f) (F : FnR X.prog X.w X.K X.mg X.base CX k f sp) (hr : Room k X.A) (hx : Passes CX X E) : OpR X (binaryOp op) (rOwn C sp E) := by
  intro pins s σ H x y v u Q I rx ry h
  obtain ⟨a, b, dx, dy, fs, gs, rfl, rfl, ha, hb, q⟩ := h
  cases rx
  cases ry
  obtain ⟨od, J⟩ := inst_of I ha
  obtain ⟨od', J'⟩ := inst_of I hb
  obtain ⟨m, hF⟩ := I.fr
  exact PySem.W.binop_K hF I.ok.mod.kin J J'.type hc S.at_ S.fn (wpAny_mono (fn_at rfl hr F hx I (vr2 a b) q) (fun w s' z => cmp_back z) fun _ _ z => z)
/-- x op n, x an instance of C, n an int -/
def rOwnI (C : Addr) (sp : Sp) (E : XK) : R2 := fun x y H Q => ∃ a n dx fs, x = .ref a ∧ y = .int n ∧ H a = some (.ins C dx fs) ∧ sp [.ref a, .int n] H Q E
theorem op_ownI {op : Operator} {fo ro : Option Value} (hc : PySem.W.selfFirst X.K C = true) (S : Sm X.K C (PySem.dunder op.info.2) f) (hR : PySem.W.findIn X.K (.ref C) (dunderR op.info.2) = some none)
    (h1 : PySem.W.findIn X.K (.type "int") (PySem.dunder op.info.2) = some fo) (h2 : PySem.W.findIn X.K (.type "int") (dunderR op.info.2) = some ro) (hU : PySem.W.subIn X.K (.type "int") (.ref C) = some false)
    (F : FnR X.prog X.w X.K X.mg X.base CX k f sp) (hr : Room k X.A) (hx : Passes CX X E) : OpR X (binaryOp op) (rOwnI C sp E) := by
  intro pins s σ H x y v u Q I rx ry h
  obtain ⟨a, n, dx, fs, rfl, rfl, ha, q⟩ := h
  cases rx
  obtain ⟨t, rfl⟩ := ry
  obtain ⟨od, J⟩ := inst_of I ha
  obtain ⟨m, hF⟩ := I.fr
  exact PySem.W.ksp_binT (T := "int") hF I.ok.mod.kin J rfl hc S.at_ S.fn hR (.inl rfl) h1 h2 hU (wpAny_mono (fn_at rfl hr F hx I (vrx a (rvi n t)) q) (fun w s' z => cmp_back z) fun _ _ z => z)
/-- op x -/
def rOwnU (C : Addr) (sp : Sp) (E : XK) : V → Hp → VK → Prop := fun x H Q => ∃ a dx fs, x = .ref a ∧ H a = some (.ins C dx fs) ∧ sp [.ref a] H Q E
theorem un_ownNeg (S : Sm X.K C "__neg__" f) (F : FnR X.prog X.w X.K X.mg X.base CX k f sp) (hr : Room k X.A) (hx : Passes CX X E) : UnR X (unaryOp .USub) (rOwnU C sp E) := by
  intro pins s σ H x v Q I rx h
  obtain ⟨a, dx, fs, rfl, ha, q⟩ := h
  cases rx
  obtain ⟨od, J⟩ := inst_of I ha
  obtain ⟨m, hF⟩ := I.fr
  exact PySem.W.ksp_neg hF I.ok.mod.kin J S.at_ S.fn (fn_at rfl hr F hx I (vr1 a) q)
theorem un_ownInv (S : Sm X.K C "__invert__" f) (F : FnR X.prog X.w X.K X.mg X.base CX k f sp) (hr : Room k X.A) (hx : Passes CX X E) : UnR X (unaryOp .Invert) (rOwnU C sp E) := by
  intro pins s σ H x v Q I rx h
  obtain ⟨a, dx, fs, rfl, ha, q⟩ := h
  cases rx
  obtain ⟨od, J⟩ := inst_of I ha
  obtain ⟨m, hF⟩ := I.fr
  exact PySem.W.ksp_inv hF I.ok.mod.kin J S.at_ S.fn (fn_at rfl hr F hx I (vr1 a) q)
/-- x == y, x <= y ..: any value back -/
theorem op_ownCmp {op : CmpOp} (hop : ∀ v u, compareOp op v u = richCompare op v u) (S : Sm X.K C (cmpInfo op).2.1 f) (F : FnR X.prog X.w X.K X.mg X.base CX k f sp) (hr : Room k X.A) (hx : Passes CX X E) : OpR X (compareOp op) (rOwn C sp E) := by
  intro pins s σ H x y v u Q I rx ry h
  obtain ⟨a, b, dx, dy, fs, gs, rfl, rfl, ha, hb, q⟩ := h
  cases rx
  cases ry
  obtain ⟨od, J⟩ := inst_of I ha
  obtain ⟨od', J'⟩ := inst_of I hb
  obtain ⟨m, hF⟩ := I.fr
  rw [hop]
  exact PySem.W.cmp_K (tb := .ref C) hr.units0 hF I.ok.mod.kin J J'.type (by simp [PySem.W.notFirst]) S.at_ S.fn (wpAny_mono (fn_at rfl hr F hx I (vr2 a b) q) (fun w s' z => cmp_back z) fun _ _ z => z)
/-- x in y, y an instance of C with __contains__ that gives a bool -/
def rOwnIn (C : Addr) (sp : Sp) (E : XK) (neg : Bool) : R2 := fun x y H Q => ∃ a dx fs, y = .ref a ∧ H a = some (.ins C dx fs) ∧ sp [.ref a, x] H (fun r H' => ∃ b, r = .bl b ∧ Q (.bl (if neg then !b else b)) H') E
theorem op_ownIn (S : Sm X.K C "__contains__" f) (F : FnR X.prog X.w X.K X.mg X.base CX k f sp) (hr : Room k X.A) (hx : Passes CX X E) : OpR X (compareOp .In) (rOwnIn C sp E false) := by
  intro pins s σ H x y v u Q I rx ry h
  obtain ⟨a, dx, fs, rfl, ha, q⟩ := h
  cases ry
  obtain ⟨od, J⟩ := inst_of I ha
  obtain ⟨m, hF⟩ := I.fr
  refine PySem.W.in_K hF I.ok.mod.kin J S.at_ S.fn (wpAny_mono (fn_at rfl hr F hx I (vrx a rx) q) (fun w s' z => ?_) fun _ _ z => z)
  obtain ⟨v', H', I', r', b, rfl, q'⟩ := z
  cases r'
  exact wpAny_truthy_bool ⟨V.bl b, H', I', rfl, q'⟩
theorem op_ownNotIn (S : Sm X.K C "__contains__" f) (F : FnR X.prog X.w X.K X.mg X.base CX k f sp) (hr : Room k X.A) (hx : Passes CX X E) : OpR X (compareOp .NotIn) (rOwnIn C sp E true) := by
  intro pins s σ H x y v u Q I rx ry h
  obtain ⟨a, dx, fs, rfl, ha, q⟩ := h
  cases ry
  obtain ⟨od, J⟩ := inst_of I ha
  obtain ⟨m, hF⟩ := I.fr
  refine PySem.W.notIn_K hF I.ok.mod.kin J S.at_ S.fn (wpAny_mono (fn_at rfl hr F hx I (vrx a rx) q) (fun w s' z => ?_) fun _ _ z => z)
  obtain ⟨v', H', I', r', b, rfl, q'⟩ := z
  cases r'
  exact wpAny_truthy_bool ⟨V.bl (!b), H', I', rfl, q'⟩
/-- the truth of an instance by __bool__ -/
def rTru (C : Addr) (sp : Sp) (E : XK) : V → Hp → (Bool → Hp → Prop) → Prop := fun x H Q => ∃ a dx fs, x = .ref a ∧ H a = some (.ins C dx fs) ∧ sp [.ref a] H (fun r H' => ∃ b, r = .bl b ∧ Q b H') E
theorem tru_own (S : Sm X.K C "__bool__" f) (F : FnR X.prog X.w X.K X.mg X.base CX k f sp) (hr : Room k X.A) (hx : Passes CX X E) : TruR X (rTru C sp E) := by
  intro pins s σ H x v Q I rx h
  obtain ⟨a, dx, fs, rfl, ha, q⟩ := h
  cases rx
  obtain ⟨od, J⟩ := inst_of I ha
  obtain ⟨m, hF⟩ := I.fr
  refine PySem.W.truthy_K hF I.ok.mod.kin J S.at_ S.fn (wpAny_mono (fn_at rfl hr F hx I (vr1 a) q) (fun w s' z => ?_) fun _ _ z => z)
  obtain ⟨v', H', I', r', b, rfl, q'⟩ := z
  cases r'
  exact ⟨H', I', q'⟩
/-- str(x) by __str__ -/
theorem Room.in2 {A : Around} (r : Room (k + 1) A) : Room k A.in1.in1 :=
  ⟨r.hd, by have := r.dp; show A.depth + 3 * k + 5 < _; omega, by have := r.un; show A.units + 1 + 1 + 16 * k + 200 < _; omega⟩
def rStr (C : Addr) (sp : Sp) (E : XK) : List V → Hp → VK → Prop := fun xs H Q => ∃ a dx fs, xs = [.ref a] ∧ H a = some (.ins C dx fs) ∧ sp [.ref a] H (fun r H' => ∃ z, r = .str z ∧ Q (.str z) H') E
theorem call_str_own (S : Sm X.K C "__str__" f) (F : FnR X.prog X.w X.K X.mg X.base CX k f sp) (hr : Room (k + 1) X.A) (hx : Passes CX X E) : CallR X (.type "str") (rStr C sp E) := by
  intro pins s σ H xs us Q I r h
  obtain ⟨a, dx, fs, rfl, ha, q⟩ := h
  cases r.ref1
  obtain ⟨od, J⟩ := inst_of I ha
  have hr2 := Room.in2 hr
  refine PySem.W.kso_call hr2.units0 I.kIn J S.at_ S.fn (wpAny_mono (fn_at (A := X.A.in1.in1) rfl hr2 F hx I (vr1 a) q) (fun w s' z => ?_) fun _ _ z => z)
  obtain ⟨v', H', I', r', b, rfl, q'⟩ := z
  obtain ⟨t, rfl⟩ := r'
  exact ⟨V.str b, H', I', ⟨t, rfl⟩, q'⟩
/-- x != y by the inherited __ne__, over an own __eq__ that gives a bool -/
def rOwnNe (C : Addr) (sp : Sp) (E : XK) : R2 := fun x y H Q => ∃ a b dx dy fs gs, x = .ref a ∧ y = .ref b ∧ H a = some (.ins C dx fs) ∧ H b = some (.ins C dy gs) ∧ sp [.ref a, .ref b] H (fun r H' => ∃ e, r = .bl e ∧ Q (.bl (!e)) H') E
theorem ne_lookup {K : PySem.W.Frag} {C : Addr} (h : PySem.W.findIn K (.ref C) "__ne__" = some (some (.builtin "object.__ne__"))) : PySem.W.findIn K (.ref C) "__ne__" = some (some (.builtin "object.__ne__")) := h
theorem slot_ne : Slot "object" "__ne__" "object.__ne__" :=
  .of (owner := "object") (n := "__ne__") (by rw [typeLookup_type, builtinLookup_eq_fast]; kernel_rfl) (by decide +kernel) (by decide +kernel) (by decide +kernel)
    (by first | exact .inl (by decide +kernel) | exact .inr (by decide +kernel)) (by rw [isSubtype_type]; kernel_rfl)
theorem ifBound_ne {M : Model} {A : Around} {E : Value → Shared → Prop} {s : Shared} {K : PySem.W.Frag} {x C : Addr} {ox : Obj} {od : Option Obj} {args : List Value} {Q : Option Value → Shared → Prop} (X : K.In s.heap) (I : PySem.W.InstAt s.heap x ox C od)
    (hs : PySem.W.findIn K (.ref C) "__ne__" = some (some (.builtin "object.__ne__")))
    (h : wpAny M A (call (.builtin "object.__ne__") (.ref x :: args)) (fun v => Q (some v)) E s) : wpAny M A (callSpecialIfBound? (.ref x) "__ne__" args) Q E s := by
  simp only [callSpecialIfBound?, bindSpecialIfBound?]
  refine wpAny_holding (wpAny_bind (wpAny_bind (wpAny_bind (I.type.here ((PySem.W.looks_findIn X hs).here ?_)))))
  refine wpAny_bind (wpAny_askSetting (wpAny_ite ?_))
  have fin : wpAny M A (call (.builtin "object.__ne__") ([.ref x] ++ args) >>= fun v => pure (some v)) Q E s := wpAny_bind (wpAny_mono h (fun v s' h' => wpAny_pure h') fun _ _ h' => h')
  have hb := slot_ne.bind (.ref x)
  split
  · refine wpAny_bind (wpAny_of_eq hb (wpAny_pure (by exact fin)))
  · refine wpAny_tryCatch (wpAny_bind (wpAny_of_eq hb (wpAny_pure (by exact fin))))
theorem op_ownNe (S : Sm X.K C "__eq__" f) (N : PySem.W.findIn X.K (.ref C) "__ne__" = some (some (.builtin "object.__ne__"))) (O : PySem.W.mroIn X.K C (.type "object") = some true) (F : FnR X.prog X.w X.K X.mg X.base CX k f sp) (hr : Room (k + 1) X.A) (hx : Passes CX X E) :
    OpR X (compareOp .NotEq) (rOwnNe C sp E) := by
  intro pins s σ H x y v u Q I rx ry h
  obtain ⟨a, b, dx, dy, fs, gs, rfl, rfl, ha, hb, q⟩ := h
  cases rx
  cases ry
  obtain ⟨od, J⟩ := inst_of I ha
  obtain ⟨od', J'⟩ := inst_of I hb
  have hr1 := hr.in1
  show wpAny (model X.prog X.w) X.A (richCompare .NotEq (.ref a) (.ref b)) (EP X pins σ Q) X.xe s
  have one : wpAny (model X.prog X.w) X.A (tryCompare (.ref a) "__ne__" (.ref b)) (fun r s' => ∃ v, r = some v ∧ EP X pins σ Q v s') X.xe s := by
    unfold tryCompare
    refine wpAny_bind (ifBound_ne I.kIn J N ?_)
    refine wpAny_call (codeAny_call_builtin slot_ne.plain PySem.F.cmpEntry_ne (@PySem.W.check_slot (model X.prog X.w) _ _ s "object.__ne__" "object" "__ne__" (.ref a) [.ref b] [] _ PySem.F.cmpKind_ne PySem.F.cmpSplit_ne (J.type.andThen (PySem.W.looks_mroIn I.kIn O)) (PySem.F.cmpArgs_ne _ _) ?_))
    unfold Builtin.«object.__ne__»
    refine wpAny_bind (m := slotArgs "__ne__" 1 _) (wpAny_pure ?_)
    refine wpAny_bind (wpAny_cRoomFor hr1.units0 ?_)
    refine wpAny_bind (PySem.W.ifBound_K I.kIn J S.at_ S.fn (wpAny_mono (fn_at (A := X.A.in1) rfl hr1 F hx I (vr2 a b) q) (fun w s' z => ?_) fun _ _ z => z))
    obtain ⟨v', H', I', r', e, rfl, q'⟩ := z
    cases r'
    refine wpAny_bind (wpAny_truthy_bool (wpAny_pure ?_))
    exact wpAny_pure ⟨_, rfl, ⟨V.bl (!e), H', I', rfl, q'⟩⟩
  unfold richCompare
  simp only [oneThing_ref]
  refine wpAny_holding (wpAny_bind (wpAny_cRoomFor hr.units0 ?_))
  refine wpAny_bind (J.type.here (wpAny_bind (J'.type.here ?_)))
  rw [if_neg (by simp)]
  refine wpAny_bind (wpAny_pure ?_)
  simp only [Bool.false_eq_true, if_false]
  refine wpAny_bind (wpAny_mono one (fun r s' z => ?_) fun _ _ e => e)
  obtain ⟨v, rfl, hq⟩ := z
  exact wpAny_pure hq
/-! ### texts -/
/-- a text n times -/
theorem foldl_app (c : Array Nat) : ∀ (n : Nat) (acc : Array Nat), ((List.replicate n c).foldl (· ++ ·) acc).toList = acc.toList ++ (List.replicate n c.toList).flatten
  | 0, acc => by simp
  | n + 1, acc => by
    rw [List.replicate_succ, List.foldl_cons, foldl_app c n (acc ++ c), List.replicate_succ, List.flatten_cons, Array.toList_append, List.append_assoc]
theorem mul_tl (x : Str) (n : Nat) : (Txt.mul x (n : Int)).cps.toList = (List.replicate n x.cps.toList).flatten := by
  unfold Txt.mul
  by_cases h1 : (n : Int) < 1
  · rw [if_pos h1]
    have : n = 0 := by omega
    subst this
    rfl
  · rw [if_neg h1]
    by_cases h2 : ((n : Int) == 1 || x.length == 0) = true
    · rw [if_pos h2]
      rcases Bool.or_eq_true_iff.mp h2 with e | e
      · have e1 : (n : Int) = 1 := eq_of_beq e
        have : n = 1 := by omega
        subst this
        simp
      · have e1 : x.length = 0 := eq_of_beq e
        have e2 : x.cps.toList = [] := by
          have : x.cps.size = 0 := e1
          exact List.eq_nil_of_length_eq_zero (by simpa using this)
        rw [e2]
        simp
    · rw [if_neg h2]
      show ((List.replicate (n : Int).toNat x.cps).foldl (· ++ ·) #[]).toList = _
      rw [foldl_app, Int.toNat_natCast]
      simp
def rMulS : R2 := fun x y H Q => ∃ (z : Str) (n : Nat), x = .str z ∧ y = .int (n : Int) ∧ z.length * n ≤ 16777216 ∧ n ≤ 16777216 ∧ Q (.str (Txt.mul z (n : Int))) H
theorem op_mulS : OpR X (binaryOp .Mult) rMulS := by
  intro pins s σ H x y v u Q I rx ry h
  obtain ⟨z, n, rfl, rfl, h1, h2, q⟩ := h
  obtain ⟨t, rfl⟩ := rx
  obtain ⟨t', rfl⟩ := ry
  refine SB.mul ⟨?_, fun h3 _ h4 => ?_, fun _ _ => ?_⟩ fun t2 k => ⟨.str _, H, I.tok _, ⟨_, rfl⟩, q⟩
  · have a : ¬ ((n : Int) < -(2 ^ 63 : Int)) := by omega
    have b : ¬ ((n : Int) ≥ 2 ^ 63) := by
      have : (2 : Int) ^ 63 = 9223372036854775808 := by decide
      omega
    rw [decide_eq_false a, decide_eq_false b]
    rfl
  · have e : (2 : Int) ^ 63 = 9223372036854775808 := by decide
    rw [e] at h4
    have hn : (1 : Int) ≤ n := by omega
    have := Int.lt_mul_of_ediv_lt (show (0 : Int) < n by omega) h4
    have h5 : ((z.length * n : Nat) : Int) = (z.length : Int) * n := by rw [Int.natCast_mul]
    omega
  · rw [Int.toNat_natCast]
    unfold Builtin.Str.tooLong
    have : sizeLine = 16777216 := sizeLine_eq
    simp
    omega
/-- s[::-1] -/
def revS (z : Str) : Str := ⟨z.cps.toList.reverse.toArray⟩
def tRevS (te : TE) : TE := fun σ H Q => te σ H fun x H1 => ∃ z : Str, x = .str z ∧ z.length ≤ sizeLine ∧ Q (.str (revS z)) H1
theorem rev_list {α : Type} (l : List α) (d : α) : (List.range l.length).map (fun k => l.getD (l.length - 1 - k) d) = l.reverse := by
  apply List.ext_getElem
  · simp
  · intro i h1 h2
    have hi : i < l.length := by simpa using h2
    rw [List.getElem_map, List.getElem_range, List.getElem_reverse, List.getD_eq_getElem?_getD, List.getElem?_eq_getElem (by omega)]
    simp
theorem rev_pick (z : Str) : ((Builtin.Str.strSliceIndices none none (-1) z.length).filterMap (z.cps[·]?)) = z.cps.toList.reverse := by
  rw [picked_rev, filterMap_get, List.map_map]
  · rw [← rev_list z.cps.toList 0]
    have e : z.length = z.cps.toList.length := by simp [Str.length]
    rw [e]
    apply List.map_congr_left
    intro k hk
    have hk' : k < z.cps.toList.length := List.mem_range.mp hk
    have h2 : z.cps.toList.length - 1 - k < z.cps.size := by
      have : z.cps.toList.length = z.cps.size := Array.length_toList
      omega
    rw [List.getD_eq_getElem?_getD, Array.getElem?_toList]
    have h3 : z.cps.size - 1 - k < z.cps.size := by
      have : z.cps.toList.length = z.cps.size := Array.length_toList
      omega
    simp [Array.getD, dif_pos h3, Array.getElem?_eq_getElem h3]
  · intro i hi
    obtain ⟨k, hk, rfl⟩ := List.mem_map.mp hi
    have hk' : k < z.length := List.mem_range.mp hk
    show z.length - 1 - k < z.length
    omega
theorem pe_revS {e : Expr} {te : TE} {k : Nat} {p1 p2 p3 pos : Pos} (he : PE X e te) : PE X (.Subscript e (.Slice none none (some (.UnaryOp .USub (.Constant (.int 1) k p1) p2)) p3) pos) (tRevS te) := by
  refine ⟨fun pins s σ H Q I h => ?_⟩
  refine Subscript_ (thn (he.run pins s σ H _ I h) fun v s1 ⟨x, H1, I1, r1, q1⟩ => ?_)
  obtain ⟨z, ex, hz, q⟩ := q1
  subst ex
  obtain ⟨t, rfl⟩ := r1
  have hst : PO X (some (.UnaryOp .USub (.Constant (.int 1) k p1) p2)) (tPart (tUn (rU fun i => .int (-i)) (tC (.int 1)))) := po_some (pe_un un_neg pe_int)
  refine wpAny_Slice (thn (po_none.run pins s1 σ H1 (fun o H2 => o = none ∧ H2 = H1) I1 ⟨rfl, rfl⟩) fun vl s2 ⟨l, H2, I2, pl, el, e2⟩ => ?_)
  subst el e2
  refine thn (po_none.run pins s2 σ H2 (fun o H3 => o = none ∧ H3 = H2) I2 ⟨rfl, rfl⟩) fun vu s3 ⟨u, H3, I3, pu, eu, e3⟩ => ?_
  subst eu e3
  refine thn (hst.run pins s3 σ H3 (fun o H4 => o = some (-1) ∧ H4 = H3) I3 ⟨1, rfl, -1, rfl, rfl, rfl⟩) fun vs s4 ⟨o, H4, I4, ps, eo, e4⟩ => ?_
  subst eo e4
  have I5 : Inv X pins σ H4 { s4 with heap := s4.heap.push { cls := .type "slice", data := .fields #[vl, vu, vs] } } := I4.kept (t' := s4.toks) fun b ob q => Heap.get?_push_of_some _ q
  obtain ⟨l, rfl, hl⟩ := IsPart.raw pl
  obtain ⟨u, rfl, hu⟩ := IsPart.raw pu
  obtain ⟨w, rfl, hw⟩ := IsPart.raw ps
  cases l with
  | some p => cases hl
  | none =>
    cases u with
    | some p => cases hu
    | none =>
      cases w with
      | none => cases hw
      | some p =>
        obtain ⟨m, tk⟩ := p
        have em : m = -1 := by simpa using hw
        subst em
        show wpAny (model X.prog X.w) X.A (subscriptTail e (.Slice none none (some (.UnaryOp .USub (.Constant (.int 1) k p1) p2)) p3) (.str z t) (.ref s4.heap.objs.size)) (EP X pins σ Q) X.xe _
        refine tail_any (ops := [.str z t, .ref s4.heap.objs.size]) (typeIs_str _ _ _) F.slot_str_getitem.lookup ?_ (by with_unfolding_all rfl)
        obtain ⟨os, hos, hcs, hds⟩ := Heap.IsSliceOf.new s4.heap (partValue none) (partValue none) (partValue (some ((-1 : Int), tk)))
        refine wpAny_getItem_str_slice (l := none) (u := none) (st := some ((-1 : Int), tk)) ⟨os, hos, hcs, hds⟩ rfl ?_
        show Made.post (if ((-1 : Int) == 1 && (Builtin.Str.strSliceIndices none none (-1) z.length).length == z.length) = true then Made.val (.str z t)
          else Made.str ⟨((Builtin.Str.strSliceIndices none none (-1) z.length).filterMap (z.cps[·]?)).toArray⟩) (EP X pins σ Q) _
        rw [if_neg (by simp), rev_pick]
        refine ⟨?_, .str (revS z), H4, I5.tok _, ⟨_, rfl⟩, q⟩
        show (z.cps.toList.reverse.toArray).size ≤ sizeLine
        rw [List.size_toArray, List.length_reverse, Array.length_toList]
        exact hz
/-- bool(x), x an instance with __bool__ -/
def rBool (C : Addr) (sp : Sp) (E : XK) : List V → Hp → VK → Prop := fun xs H Q => ∃ a dx fs, xs = [.ref a] ∧ H a = some (.ins C dx fs) ∧ sp [.ref a] H (fun r H' => ∃ b, r = .bl b ∧ Q (.bl b) H') E
theorem call_bool_own (S : Sm X.K C "__bool__" f) (F : FnR X.prog X.w X.K X.mg X.base CX k f sp) (hr : Room (k + 1) X.A) (hx : Passes CX X E) : CallR X (.type "bool") (rBool C sp E) := by
  intro pins s σ H xs us Q I r h
  obtain ⟨a, dx, fs, rfl, ha, q⟩ := h
  cases r.ref1
  obtain ⟨od, J⟩ := inst_of I ha
  obtain ⟨m, hF⟩ := I.fr
  have hr2 := Room.in2 hr
  refine callType_codes (T := "bool") (Bi := Builtin.«object.__init__») (Q₁ := fun r s₁ => (∃ b, r = .bool b) ∧ EP X pins σ Q r s₁) PySem.F.called_bool (PySem.F.typeCall_bool_1 _) PySem.F.entry_object_init ?_ ?_
  · refine codeAny_of_tree ?_
    show wpAny _ X.A.in1.in1 (do checkBuiltinCall "bool.__new__" ⟨[.type "bool", .ref a], []⟩; again (.builtin "bool.__new__" ⟨[.type "bool", .ref a], []⟩)) _ _ s
    refine wpAny_bind (wpAny_of_eq (PySem.F.newCall_bool_1 _) (wpAny_pure ⟨plainId_quiet (by decide +kernel) _, codeAny_builtin PySem.F.entry_bool_new ?_⟩))
    rw [Around.under_plainId (by decide +kernel) _]
    have f1 := PySem.F.conv_sub_bool
    have tr : wpAny (model X.prog X.w) X.A.in1.in1 (truthy (.ref a)) (fun b s' => EP X pins σ Q (.bool b) s') X.xe s := by
      refine PySem.W.truthy_K hF I.ok.mod.kin J S.at_ S.fn (wpAny_mono (fn_at (A := X.A.in1.in1) rfl hr2 F hx I (vr1 a) q) (fun w s' z => ?_) fun _ _ z => z)
      obtain ⟨v', H', I', r', b, rfl, q'⟩ := z
      cases r'
      exact ⟨V.bl b, H', I', rfl, q'⟩
    unfold Builtin.«bool.__new__»
    obtain ⟨hp, g, d, tk, os⟩ := s
    repeat (first | (with_reducible refine wpAny_mono tr (fun b s' hb => ?_) fun _ _ z => z) | wp_step)

    exact ⟨⟨b, rfl⟩, hb⟩
  · rintro obj s₁ ⟨⟨b, rfl⟩, hq⟩
    exact ⟨rfl, PySem.F.args_object_init_2 _ _, object_init_meets PySem.F.called_bool.init.lookup PySem.F.called_bool.made (by decide) X.prog X.w X.A.in1 _ s₁ ⟨rfl, rfl, hq⟩⟩
end
end Od
namespace Od
open PySem PySem.Spec PyProof.Rows L2 C8
section
variable {X : Cx} {k j : Nat} {C : Addr} {m : Str} {sp : Sp} {dvs : List V} {o e : Expr} {es : List Expr} {ta : TE} {t : TA} {p pos apos : Pos}
theorem Met.raw (c : C8.Met X.prog X.w X.K X.mg X.base k C m sp []) : ∃ f, Sm X.K C m f ∧ FnR X.prog X.w X.K X.mg X.base C8.CX0 k f sp := by
  obtain ⟨f, fd, ps, ds, hc, hm, F, b, d⟩ := c.ex
  exact ⟨f, ⟨hm.at_, hm.fn⟩, (F.raw b d).imp fun vs H Q E h => by rw [List.append_nil]; exact h⟩
theorem op_ownM {op : Operator} (hc : PySem.W.selfFirst X.K C = true) (c : C8.Met X.prog X.w X.K X.mg X.base k C (PySem.dunder op.info.2) sp []) (hr : Room j X.A) (hk : k ≤ j) : OpR X (binaryOp op) (rOwn C sp C8.E0) := by
  obtain ⟨f, S, F⟩ := Met.raw c
  exact op_own hc S F (hr.mono hk) C8.pass0
theorem op_ownIM {op : Operator} {fo ro : Option Value} (hc : PySem.W.selfFirst X.K C = true) (c : C8.Met X.prog X.w X.K X.mg X.base k C (PySem.dunder op.info.2) sp []) (hR : PySem.W.findIn X.K (.ref C) (dunderR op.info.2) = some none) (hr : Room j X.A) (hk : k ≤ j)
    (h1 : PySem.W.findIn X.K (.type "int") (PySem.dunder op.info.2) = some fo) (h2 : PySem.W.findIn X.K (.type "int") (dunderR op.info.2) = some ro) (hU : PySem.W.subIn X.K (.type "int") (.ref C) = some false) : OpR X (binaryOp op) (rOwnI C sp C8.E0) := by
  obtain ⟨f, S, F⟩ := Met.raw c
  exact op_ownI hc S hR h1 h2 hU F (hr.mono hk) C8.pass0
theorem un_ownNegM (c : C8.Met X.prog X.w X.K X.mg X.base k C "__neg__" sp []) (hr : Room j X.A) (hk : k ≤ j) : UnR X (unaryOp .USub) (rOwnU C sp C8.E0) := by
  obtain ⟨f, S, F⟩ := Met.raw c
  exact un_ownNeg S F (hr.mono hk) C8.pass0
theorem un_ownInvM (c : C8.Met X.prog X.w X.K X.mg X.base k C "__invert__" sp []) (hr : Room j X.A) (hk : k ≤ j) : UnR X (unaryOp .Invert) (rOwnU C sp C8.E0) := by
  obtain ⟨f, S, F⟩ := Met.raw c
  exact un_ownInv S F (hr.mono hk) C8.pass0
theorem op_ownEqM (c : C8.Met X.prog X.w X.K X.mg X.base k C "__eq__" sp []) (hr : Room j X.A) (hk : k ≤ j) : OpR X (compareOp .Eq) (rOwn C sp C8.E0) := by
  obtain ⟨f, S, F⟩ := Met.raw c
  exact op_ownCmp (fun _ _ => rfl) S F (hr.mono hk) C8.pass0
theorem op_ownLeM (c : C8.Met X.prog X.w X.K X.mg X.base k C "__le__" sp []) (hr : Room j X.A) (hk : k ≤ j) : OpR X (compareOp .LtE) (rOwn C sp C8.E0) := by
  obtain ⟨f, S, F⟩ := Met.raw c
  exact op_ownCmp (fun _ _ => rfl) S F (hr.mono hk) C8.pass0
theorem op_ownLtM (c : C8.Met X.prog X.w X.K X.mg X.base k C "__lt__" sp []) (hr : Room j X.A) (hk : k ≤ j) : OpR X (compareOp .Lt) (rOwn C sp C8.E0) := by
  obtain ⟨f, S, F⟩ := Met.raw c
  exact op_ownCmp (fun _ _ => rfl) S F (hr.mono hk) C8.pass0
theorem op_ownGeM (c : C8.Met X.prog X.w X.K X.mg X.base k C "__ge__" sp []) (hr : Room j X.A) (hk : k ≤ j) : OpR X (compareOp .GtE) (rOwn C sp C8.E0) := by
  obtain ⟨f, S, F⟩ := Met.raw c
  exact op_ownCmp (fun _ _ => rfl) S F (hr.mono hk) C8.pass0
theorem op_ownGtM (c : C8.Met X.prog X.w X.K X.mg X.base k C "__gt__" sp []) (hr : Room j X.A) (hk : k ≤ j) : OpR X (compareOp .Gt) (rOwn C sp C8.E0) := by
  obtain ⟨f, S, F⟩ := Met.raw c
  exact op_ownCmp (fun _ _ => rfl) S F (hr.mono hk) C8.pass0
theorem op_ownNeM (c : C8.Met X.prog X.w X.K X.mg X.base k C "__eq__" sp []) (N : PySem.W.findIn X.K (.ref C) "__ne__" = some (some (.builtin "object.__ne__"))) (O : PySem.W.mroIn X.K C (.type "object") = some true) (hr : Room j X.A) (hk : k + 1 ≤ j) :
    OpR X (compareOp .NotEq) (rOwnNe C sp C8.E0) := by
  obtain ⟨f, S, F⟩ := Met.raw c
  exact op_ownNe S N O F (hr.mono hk) C8.pass0
theorem op_ownInM (c : C8.Met X.prog X.w X.K X.mg X.base k C "__contains__" sp []) (hr : Room j X.A) (hk : k ≤ j) : OpR X (compareOp .In) (rOwnIn C sp C8.E0 false) := by
  obtain ⟨f, S, F⟩ := Met.raw c
  exact op_ownIn S F (hr.mono hk) C8.pass0
theorem op_ownNotInM (c : C8.Met X.prog X.w X.K X.mg X.base k C "__contains__" sp []) (hr : Room j X.A) (hk : k ≤ j) : OpR X (compareOp .NotIn) (rOwnIn C sp C8.E0 true) := by
  obtain ⟨f, S, F⟩ := Met.raw c
  exact op_ownNotIn S F (hr.mono hk) C8.pass0
theorem tru_ownM (c : C8.Met X.prog X.w X.K X.mg X.base k C "__bool__" sp []) (hr : Room j X.A) (hk : k ≤ j) : TruR X (rTru C sp C8.E0) := by
  obtain ⟨f, S, F⟩ := Met.raw c
  exact tru_own S F (hr.mono hk) C8.pass0
theorem pt_own {a : Expr} (c : C8.Met X.prog X.w X.K X.mg X.base k C "__bool__" sp []) (hr : Room j X.A) (hk : k ≤ j) (ha : PE X a ta) (he : ∀ whole, isTrue a X.env whole = (do let v ← whole; standAt a.pos; holding [v] (truthy v)) := by intro _; rfl) :
    PT X a (fun σ H Q => ta σ H fun x H' => rTru C sp C8.E0 x H' Q) := by
  refine ⟨fun pins s σ H Q I hw => ?_⟩
  refine isTrue_plain (thn (ha.run pins s σ H _ I hw) fun v s1 ⟨x, H1, I1, r1, q1⟩ => ?_) (he _)
  exact tru_ownM c hr hk pins s1 σ H1 x v Q I1 r1 q1
theorem call_str_ownM (c : C8.Met X.prog X.w X.K X.mg X.base k C "__str__" sp []) (hr : Room j X.A) (hk : k + 1 ≤ j) : CallR X (.type "str") (rStr C sp C8.E0) := by
  obtain ⟨f, S, F⟩ := Met.raw c
  exact call_str_own S F (hr.mono hk) C8.pass0
theorem call_bool_ownM (c : C8.Met X.prog X.w X.K X.mg X.base k C "__bool__" sp []) (hr : Room j X.A) (hk : k + 1 ≤ j) : CallR X (.type "bool") (rBool C sp C8.E0) := by
  obtain ⟨f, S, F⟩ := Met.raw c
  exact call_bool_own S F (hr.mono hk) C8.pass0
/-! ### an attribute as a target -/
def gFld (K : PySem.W.Frag) (to : TE) (f : Str) : TG := fun v σ H Q => to σ H fun x H1 => ∃ a C dx fs, x = .ref a ∧ H1 a = some (.ins C dx fs) ∧ Cls K C ∧ NoAttr K C f ∧ fs.length < 1000 ∧ Q σ (upd H1 a (.ins C dx (putF f v fs)))
theorem pg_fld {f : Str} (ho : PE X o ta)
    (ha : ∀ v, assign (.Attribute o f pos) X.env v = (do
      let ov ← holding [v] (eval o X.env)
      standAt pos.atName
      holding [v, ov] (setAttr ov f v)
      release [v, ov] []) := by intro _; rfl) : PG X (.Attribute o f pos) (gFld X.K ta f) := by
  refine ⟨fun pins s σ H v u Q I r h => ?_⟩
  rw [ha]
  refine wpAny_bind (wpAny_holding (thn (ho.run pins s σ H _ I h) fun ov s1 ⟨x, H1, I1, r1, a, C, dx, fs, ex, ea, c, n, l, q⟩ => ?_))
  subst ex
  obtain rfl : ov = Value.ref a := r1
  refine wpAny_bind (wpAny_standAt (wpAny_bind (wpAny_holding (setattr_ok I1 ea c n l r fun s3 I3 => ?_))))
  exact wpAny_release ⟨σ, _, I3, q⟩
/-! ### classmethods -/
structure CMt (P : Program) (w : World) (K : PySem.W.Frag) (mg : Str → Option Value) (base : Heap) (k : Nat) (C : Addr) (m : Str) (sp : Sp) : Prop where
  ex : ∃ (mc : Value) (p g : Addr), ClX.CRead K C mc ∧ ClX.CMet K C mc m p g ∧ FnR P w K mg base C8.CX0 k g sp
theorem pe_cm {C : Addr} (c : CMt X.prog X.w X.K X.mg X.base k C m sp) (hr : Room j X.A) (hk : k ≤ j) (he : PE X o ta) (ha : PA X (e :: es) t) {pl : Sem Bool}
    (hst : starEach (e :: es) X.env = (false, eval e X.env) :: starEach es X.env := by rfl) (hpl : (backTo pos (starEach es X.env)).any (·.1) = false := by rfl)
    (ht : eval (.Call (.Attribute o m apos) (e :: es) [] pos) X.env = (do
      let ov ← eval o X.env
      standAt apos.atName
      let (f, first) ← holding [ov] (getMethod ov m pl)
      callWith pos f first (backTo pos (starEach (e :: es) X.env)) (backToKw pos (keywordEach [] X.env))) := by rfl) :
    PE X (.Call (.Attribute o m apos) (e :: es) [] pos) (ClX.tCMeth C sp C8.E0 ta t) := by
  obtain ⟨mc, p, g, r, cm, F⟩ := c.ex
  exact ClX.pe_cmeth (pl := pl) he r cm F (hr.mono hk) C8.pass0 ha hst hpl ht
theorem pe_cm0 {C : Addr} (c : CMt X.prog X.w X.K X.mg X.base k C m sp) (hr : Room j X.A) (hk : k ≤ j) (he : PE X o ta) {pl : Sem Bool}
    (ht : eval (.Call (.Attribute o m apos) [] [] pos) X.env = (do
      let ov ← eval o X.env
      standAt apos.atName
      let (f, first) ← holding [ov] (getMethod ov m pl)
      callWith pos f first (backTo pos (starEach [] X.env)) (backToKw pos (keywordEach [] X.env))) := by rfl) :
    PE X (.Call (.Attribute o m apos) [] [] pos) (ClX.tCMeth C sp C8.E0 ta tNil) := by
  obtain ⟨mc, p, g, r, cm, F⟩ := c.ex
  refine ⟨fun pins s σ H Q I h => ?_⟩
  refine PySem.W.methodCall_KW (pl := pl) (thn (he.run pins s σ H _ I h) fun u s1 ⟨x, H1, I1, rx, ex, q⟩ => ?_) ht
  subst ex
  obtain rfl : u = Value.ref C := rx
  refine ClX.getmethcm_ok I1 r cm fun s2 I2 => ?_
  exact PySem.W.callWith_M0 (first := []) ⟨ClX.pin_at I2, I2.kIn⟩ cm.fi (ClX.run_cm (us := []) (vs := []) F (hr.mono hk) C8.pass0 I2 .nil q)
end
end Od
end
section
set_option Elab.async false
set_option linter.all false
set_option maxRecDepth 100000
set_option maxHeartbeats 2000000
/-! rows of signs as texts; what the text has written; short rules -/
namespace Od
open PySem PySem.Spec PyProof.Rows L2 Day
/-! ### rows as texts -/
def sg (b : Bool) : Nat := if b then 49 else 48
def rowS (l : List Bool) : Str := SX.S (l.map sg)
theorem rowS_len (l : List Bool) : (rowS l).length = l.length := by
  unfold rowS
  rw [SX.S_len, List.length_map]
theorem rowS_cat (a b : List Bool) : rowS a ++ rowS b = rowS (a ++ b) := by
  unfold rowS
  rw [SX.S_cat, List.map_append]
theorem sg_inj {a b : Bool} (h : sg a = sg b) : a = b := by cases a <;> cases b <;> first | rfl | (revert h; decide)
theorem rowS_inj {a b : List Bool} (h : rowS a = rowS b) : a = b := by
  have := SX.S_inj h
  revert b
  induction a with
  | nil =>
    intro b _ h
    cases b with
    | nil => rfl
    | cons x b => simp at h
  | cons x a ih =>
    intro b _ h
    cases b with
    | nil => simp at h
    | cons y b =>
      simp only [List.map_cons, List.cons.injEq] at h
      rw [sg_inj h.1, ih (b := b) (congrArg SX.S h.2) h.2]
theorem rowS_dec (a b : List Bool) : decide (V.str (rowS a) = V.str (rowS b)) = decide (a = b) := by
  by_cases h : a = b
  · subst h; simp
  · rw [decide_eq_false h, decide_eq_false]
    intro e
    exact h (rowS_inj (V.str.inj e))
theorem rowS_nil : rowS [] = ("" : Str) := by decide +kernel
theorem rowS_0 : rowS [false] = ("0" : Str) := by decide +kernel
theorem rowS_1 : rowS [true] = ("1" : Str) := by decide +kernel
theorem rowS_tl (l : List Bool) : (rowS l).cps.toList = l.map sg := rfl
theorem rowS_from (l : List Bool) (i : Nat) (h : i ≤ l.length) : cutS (rowS l) (some (i : Int)) none = rowS (l.drop i) := by
  refine TL.ext_tl ?_
  show (((rowS l).cps.toList.drop (HT.sIx (rowS l).length 0 (some (i : Int)))).take (HT.sIx (rowS l).length (rowS l).length none - HT.sIx (rowS l).length 0 (some (i : Int)))) = (l.drop i).map sg
  rw [HT.sIx_nat, HT.sIx_none, rowS_tl, rowS_len, Nat.min_eq_left h, List.map_drop]
  apply List.take_of_length_le
  rw [List.length_drop, List.length_map]
  exact Nat.le_refl _
theorem rowS_to (l : List Bool) (i : Nat) (h : i ≤ l.length) : cutS (rowS l) none (some (i : Int)) = rowS (l.take i) := by
  refine TL.ext_tl ?_
  show (((rowS l).cps.toList.drop (HT.sIx (rowS l).length 0 none)).take (HT.sIx (rowS l).length (rowS l).length (some (i : Int)) - HT.sIx (rowS l).length 0 none)) = (l.take i).map sg
  rw [HT.sIx_nat, HT.sIx_none, rowS_tl, rowS_len, Nat.min_eq_left h, List.drop_zero, Nat.sub_zero, List.map_take]
theorem rowS_mid (l : List Bool) (i j : Nat) (h : i ≤ j) (hj : j ≤ l.length) : cutS (rowS l) (some (i : Int)) (some (j : Int)) = rowS ((l.drop i).take (j - i)) := by
  refine TL.ext_tl ?_
  show (((rowS l).cps.toList.drop (HT.sIx (rowS l).length 0 (some (i : Int)))).take (HT.sIx (rowS l).length (rowS l).length (some (j : Int)) - HT.sIx (rowS l).length 0 (some (i : Int)))) = ((l.drop i).take (j - i)).map sg
  rw [HT.sIx_nat, HT.sIx_nat, rowS_tl, rowS_len, Nat.min_eq_left (show i ≤ l.length by omega), Nat.min_eq_left hj, List.map_take, List.map_drop]
theorem rowS_mul (l : List Bool) (n : Nat) : Txt.mul (rowS l) (n : Int) = rowS (List.replicate n l).flatten := by
  refine TL.ext_tl ?_
  show (Txt.mul (rowS l) (n : Int)).cps.toList = (List.replicate n l).flatten.map sg
  rw [mul_tl, rowS_tl]
  induction n with
  | zero => rfl
  | succ n ih => rw [List.replicate_succ, List.flatten_cons, ih, List.replicate_succ, List.flatten_cons, List.map_append]
theorem rowS_rev (l : List Bool) : revS (rowS l) = rowS l.reverse := by
  refine TL.ext_tl ?_
  show (rowS l).cps.toList.reverse = l.reverse.map sg
  rw [rowS_tl, List.map_reverse]
theorem rowS_at {l : List Bool} {i : Nat} (h : i < l.length) : atI (rowS l).cps.toList (i : Int) = some (sg (l.getD i false)) := by
  apply atI_nat
  rw [rowS_tl, List.getElem?_map, List.getElem?_eq_getElem h, List.getD_eq_getElem?_getD, List.getElem?_eq_getElem h]
  rfl
/-- the sign at a place, cyc's way -/
theorem rowS_cyc {l : List Bool} (h : l ≠ []) (z : Int) : atI (rowS l).cps.toList (z % (l.length : Int)) = some (sg (cyc l z)) := by
  have hl := prim_len h
  have m0 := Int.emod_nonneg z (show (l.length : Int) ≠ 0 by omega)
  have m1 := Int.emod_lt_of_pos z (show (0 : Int) < l.length by omega)
  have := rowS_at (l := l) (i := (z % (l.length : Int)).toNat) (by omega)
  rw [Int.toNat_of_nonneg m0] at this
  exact this
/-- .. from behind: row[-1 - k % len(row)] -/
theorem rowS_back {l : List Bool} (h : l ≠ []) (k : Int) : atI (rowS l).cps.toList (-1 - k % (l.length : Int)) = some (sg (cyc l (-1 - k))) := by
  have hl := prim_len h
  have m0 := Int.emod_nonneg k (show (l.length : Int) ≠ 0 by omega)
  have m1 := Int.emod_lt_of_pos k (show (0 : Int) < l.length by omega)
  have e : (-1 - k) % (l.length : Int) = (l.length : Int) - 1 - k % (l.length : Int) := by
    have e1 : (-1 - k) % (l.length : Int) = ((l.length : Int) - 1 - k % (l.length : Int)) % (l.length : Int) := by
      have q := Int.mul_ediv_add_emod k (l.length : Int)
      rw [show (l.length : Int) - 1 - k % (l.length : Int) = -1 - k + (1 + k / (l.length : Int)) * (l.length : Int) by
        rw [Int.add_mul, Int.one_mul, Int.mul_comm (k / (l.length : Int))]
        omega]
      rw [Int.add_mul_emod_self_right]
    rw [e1, Int.emod_eq_of_lt (by omega) (by omega)]
  have h2 := rowS_cyc h (-1 - k)
  rw [e] at h2
  unfold atI at h2 ⊢
  have hn : (rowS l).cps.toList.length = l.length := by rw [rowS_tl, List.length_map]
  rw [hn] at h2 ⊢
  have e3 : ixN l.length (-1 - k % (l.length : Int)) = ixN l.length ((l.length : Int) - 1 - k % (l.length : Int)) := by
    unfold ixN
    rw [if_neg (by omega), if_pos (by omega), if_pos (by omega), if_pos (by omega)]
    congr 1
    omega
  rw [e3]
  exact h2
theorem sgn_dec (a b : Bool) : decide (V.str ⟨#[sg a]⟩ = V.str ⟨#[sg b]⟩) = decide (a = b) := by cases a <;> cases b <;> decide +kernel
def bi (b : Bool) : Int := if b then 1 else 0
theorem int_sgn (b : Bool) : intText? (⟨#[sg b]⟩ : Str) = some (bi b) := by cases b <;> decide +kernel
end Od
end
section
set_option Elab.async false
set_option linter.all false
set_option maxRecDepth 100000
set_option maxHeartbeats 2000000
set_option autoImplicit false
/-! what every law's text has in common: names, heaps that grow, comprehensions, defs by their places -/
namespace Od
open PySem PySem.Spec PyProof.Rows L2 C8 Day
/-- names that the text leaves to the built-ins -/
structure Txt (K : PySem.W.Frag) (mg : Str → Option Value) : Prop where
  b_len : mg "len" = none
  b_abs : mg "abs" = none
  b_int : mg "int" = none
  b_str : mg "str" = none
  b_min : mg "min" = none
  b_max : mg "max" = none
  b_range : mg "range" = none
  b_all : mg "all" = none
  b_any : mg "any" = none
  b_isinstance : mg "isinstance" = none
  b_bool : mg "bool" = none
  b_list : mg "list" = none
  b_enumerate : mg "enumerate" = none
  b_sorted : mg "sorted" = none
  b_dict : mg "dict" = none
  b_repr : mg "repr" = none
  b_tuple : mg "tuple" = none
  b_zip : mg "zip" = none
  b_sum : mg "sum" = none
  b_reversed : mg "reversed" = none
/-- a def of the module, its parameters -/
def DefOf (K : PySem.W.Frag) (mg : Str → Option Value) (x : Str) (st : Stmt) (ps : List Str) : Prop := ∃ f fd, Def K mg x st f fd ∧ Binds K fd ps []
/-- what stood stands -/
def Le (H H' : Hp) : Prop := ∀ a o, H a = some o → H' a = some o
theorem Le.refl {H : Hp} : Le H H := fun _ _ h => h
theorem Le.trans {H H1 H2 : Hp} (a : Le H H1) (b : Le H1 H2) : Le H H2 := fun x o h => b x o (a x o h)
theorem Le.new {H : Hp} {p : Addr} {o : HO} (h : H p = none) : Le H (upd H p o) := fun a u e => by
  by_cases c : a = p
  · subst c; rw [h] at e; cases e
  · unfold upd; rw [if_neg c]; exact e
theorem Le.upd {H H' : Hp} {p : Addr} {o : HO} (l : Le H H') (h : H p = none) : Le H (upd H' p o) := fun a u e => by
  by_cases c : a = p
  · subst c; rw [h] at e; cases e
  · unfold L2.upd; rw [if_neg c]; exact l a u e
theorem Le.none {H H' : Hp} {p : Addr} (l : Le H H') (h : H' p = none) : H p = none := by
  cases e : H p with
  | none => rfl
  | some o => rw [l p o e] at h; cases h
theorem upd_self {H : Hp} {p : Addr} {o : HO} : upd H p o p = some o := by unfold upd; rw [if_pos rfl]
theorem upd_ne {H : Hp} {p q : Addr} {o : HO} (h : q ≠ p) : upd H p o q = H q := by unfold upd; rw [if_neg h]
/-! ### lists made by comprehensions -/
def LeX (D : Addr) (H H' : Hp) : Prop := ∀ a o, a ≠ D → H a = some o → H' a = some o
theorem Le.x {D : Addr} {H H' : Hp} (l : Le H H') : LeX D H H' := fun a o _ h => l a o h
theorem LeX.upd {D : Addr} {o : HO} {H H' : Hp} (l : LeX D H H') : LeX D H (upd H' D o) := fun a u c h => by rw [upd_ne c]; exact l a u c h
theorem LeX.le {D : Addr} {H H' : Hp} (l : LeX D H H') (h : H D = none) : Le H H' := fun a o e => l a o (fun c => by subst c; rw [h] at e; cases e) e
/-- a comprehension whose turns leave the heap as it was, or with more in it: R tells what a turn gives (none: not taken) -/
theorem lc_walk {J : It} {n : Nat} {G : Hp → Prop} {Y : Nat → Hp → V → Hp → Prop} (w : Walk J n G Y) {g : TG} {tt : TT} {te : TE} {vs : List Nat} {σ : L2.St} {H1 : Hp} {D : Addr} {Qd : Hp → Prop} (hD : H1 D = none) (hn : n ≤ sizeLine)
    (hG : ∀ H, Le H1 H → G H) (hY : ∀ i H x H', Y i H x H' → Le H H') (R : Nat → Option V → Hp → Prop) (hR : ∀ i r H H', LeX D H H' → (∃ acc, H D = some (.lst acc)) → R i r H → R i r H')
    (hs : ∀ i x H H', i < n → Le H1 H → (∃ acc, H D = some (.lst acc)) → Y i H x H' → ∀ N : Option V → Hp → Prop, (∀ r H2, Le H' H2 → R i r H2 → N r H2) → g x (wipe σ vs) H' fun σ2 H2 => wipe σ2 vs = wipe σ vs ∧ tt σ2 H2 fun b H3 => if b = true then te σ2 H3 fun y H4 => N (some y) H4 else N none H3)
    (hd : ∀ H (rs : List (Option V)), Le H1 H → rs.length = n → (∀ i r, rs[i]? = some r → R i r H) → H D = some (.lst (rs.filterMap id)) → Qd H) :
    ∃ W : Nat → Nat → Hp → Prop, (∃ m, W 0 m (upd H1 D (.lst []))) ∧ ∀ i m H, W i m H →
      (J.stop i H ∧ Qd H) ∨ (J.go i H ∧ ∃ Nx : Hp → Prop, (∀ H', Nx H' → ∃ m', m' < m ∧ W (i + 1) m' H') ∧ ∀ x H', J.yld i H x H' → g x (wipe σ vs) H' fun σ2 H2 => wipe σ2 vs = wipe σ vs ∧ tt σ2 H2 fun b H3 =>
        if b = true then te σ2 H3 fun y H4 => ∃ acc, H4 D = some (.lst acc) ∧ acc.length < sizeLine ∧ Nx (upd H4 D (.lst (acc ++ [y]))) else Nx H3) := by
  refine lc_it w (fun i H => Le H1 H ∧ ∃ rs : List (Option V), rs.length = i ∧ (∀ j r, rs[j]? = some r → R j r H) ∧ H D = some (.lst (rs.filterMap id))) ⟨Le.new hD, [], rfl, fun j r h => by simp at h, upd_self⟩ (fun i H _ p => hG H p.1) ?_ ?_
  · rintro i x H H' hi ⟨le, rs, hl, hr, e⟩ hy
    have l2 := hY i H x H' hy
    have eD : H' D = some (.lst (rs.filterMap id)) := l2 D _ e
    have st := hs i x H H' hi le ⟨_, e⟩ hy (fun r H4 => match r with
      | some y => ∃ acc, H4 D = some (.lst acc) ∧ acc.length < sizeLine ∧ (Le H1 (upd H4 D (.lst (acc ++ [y]))) ∧ ∃ rs' : List (Option V), rs'.length = i + 1 ∧ (∀ j r, rs'[j]? = some r → R j r (upd H4 D (.lst (acc ++ [y])))) ∧ upd H4 D (.lst (acc ++ [y])) D = some (.lst (rs'.filterMap id)))
      | none => Le H1 H4 ∧ ∃ rs' : List (Option V), rs'.length = i + 1 ∧ (∀ j r, rs'[j]? = some r → R j r H4) ∧ H4 D = some (.lst (rs'.filterMap id))) ?_
    · exact st
    · intro r H2 l3 hr2
      have eD2 := l3 D _ eD
      have lenf : (rs.filterMap id).length ≤ i := by rw [← hl]; exact List.length_filterMap_le _ _
      cases r with
      | none =>
        refine ⟨le.trans (l2.trans l3), rs ++ [none], by simp [hl], fun j r hj => ?_, by simpa using eD2⟩
        by_cases c : j < rs.length
        · rw [List.getElem?_append_left c] at hj
          exact hR j r H H2 (l2.trans l3).x ⟨_, e⟩ (hr j r hj)
        · have : j = i := by
            have := (List.getElem?_eq_some_iff.mp hj).1
            simp [hl] at this; omega
          subst this
          rw [List.getElem?_append_right (by omega), hl] at hj
          simp at hj
          subst hj
          exact hr2
      | some y =>
        refine ⟨_, eD2, by omega, (le.trans (l2.trans l3)).upd hD, rs ++ [some y], by simp [hl], fun j r hj => ?_, by rw [upd_self]; simp⟩
        have lx : LeX D H2 (upd H2 D (.lst (rs.filterMap id ++ [y]))) := (Le.refl).x.upd
        by_cases c : j < rs.length
        · rw [List.getElem?_append_left c] at hj
          exact hR j r H2 _ lx ⟨_, eD2⟩ (hR j r H H2 (l2.trans l3).x ⟨_, e⟩ (hr j r hj))
        · have : j = i := by
            have := (List.getElem?_eq_some_iff.mp hj).1
            simp [hl] at this; omega
          subst this
          rw [List.getElem?_append_right (by omega), hl] at hj
          simp at hj
          subst hj
          exact hR _ _ H2 _ lx ⟨_, eD2⟩ hr2
  · rintro H ⟨le, rs, hl, hr, e⟩
    exact hd H rs le hl hr e
/-- .. whose values are told by the turn alone -/
theorem lc_pure {J : It} {n : Nat} {G : Hp → Prop} {Y : Nat → Hp → V → Hp → Prop} (w : Walk J n G Y) {g : TG} {tt : TT} {te : TE} {vs : List Nat} {σ : L2.St} {H1 : Hp} {D : Addr} {Qd : Hp → Prop} (hD : H1 D = none) (hn : n ≤ sizeLine)
    (hG : ∀ H, Le H1 H → G H) (hY : ∀ i H x H', Y i H x H' → Le H H') (el : Nat → Option V)
    (hs : ∀ i x H H', i < n → Le H1 H → Y i H x H' → ∀ N : Option V → Hp → Prop, (∀ H2, Le H' H2 → N (el i) H2) → g x (wipe σ vs) H' fun σ2 H2 => wipe σ2 vs = wipe σ vs ∧ tt σ2 H2 fun b H3 => if b = true then te σ2 H3 fun y H4 => N (some y) H4 else N none H3)
    (hd : ∀ H, Le H1 H → H D = some (.lst ((List.range n).filterMap el)) → Qd H) :
    ∃ W : Nat → Nat → Hp → Prop, (∃ m, W 0 m (upd H1 D (.lst []))) ∧ ∀ i m H, W i m H →
      (J.stop i H ∧ Qd H) ∨ (J.go i H ∧ ∃ Nx : Hp → Prop, (∀ H', Nx H' → ∃ m', m' < m ∧ W (i + 1) m' H') ∧ ∀ x H', J.yld i H x H' → g x (wipe σ vs) H' fun σ2 H2 => wipe σ2 vs = wipe σ vs ∧ tt σ2 H2 fun b H3 =>
        if b = true then te σ2 H3 fun y H4 => ∃ acc, H4 D = some (.lst acc) ∧ acc.length < sizeLine ∧ Nx (upd H4 D (.lst (acc ++ [y]))) else Nx H3) := by
  refine lc_walk w hD hn hG hY (fun i r _ => r = el i) (fun _ _ _ _ _ _ h => h) (fun i x H H' hi le _ hy N hN => hs i x H H' hi le hy N fun H2 l => hN _ H2 l rfl) fun H rs le hl hr e => hd H le ?_
  have : rs = (List.range n).map el := by
    apply List.ext_getElem?
    intro i
    by_cases c : i < rs.length
    · rw [List.getElem?_eq_getElem c, List.getElem?_map, List.getElem?_range (by omega)]
      exact congrArg some (hr i _ (List.getElem?_eq_getElem c))
    · rw [List.getElem?_eq_none (by omega), List.getElem?_eq_none (by simp; omega)]
  rw [e, this, List.filterMap_map]
  rfl
theorem yfn_le {f : Nat → V} : ∀ i H x H', YFn f i H x H' → Le H H' := fun _ _ _ _ h => by rw [h.1]; exact .refl
theorem yat_le {xs : List V} : ∀ i H x H', YAt xs i H x H' → Le H H' := fun _ _ _ _ h => by rw [h.1]; exact .refl
/-- a method of a class: its def -/
def MetOf (K : PySem.W.Frag) (C : Addr) (m qual : Str) (st : Stmt) (ps : List Str) : Prop := ∃ f fd, Meth K C m f ∧ C8.Fun K m qual st f fd ∧ L2.Binds K fd ps []
/-- a class: its __init__ -/
def MakOf (K : PySem.W.Frag) (C : Addr) (qual : Str) (st : Stmt) (ps : List Str) : Prop := ∃ f fd, Mk K C f ∧ C8.Fun K "__init__" qual st f fd ∧ L2.Binds K fd ps []
theorem lt_put {f : Str} {v : V} {n : Nat} : ∀ {fs : List (Str × V)}, fs.length < n → (putF f v fs).length < n + 1
  | [], h => by show 1 < n + 1; have : (0 : Nat) < n := h; omega
  | (g, x) :: r, h => by
    have h' : r.length + 1 < n := h
    unfold putF
    split
    · show r.length + 1 < n + 1; omega
    · show (putF f v r).length + 1 < n + 1
      have := lt_put (f := f) (v := v) (n := n - 1) (fs := r) (by omega)
      omega
/-- a classmethod: its def -/
def ClmOf (K : PySem.W.Frag) (C : Addr) (m qual : Str) (st : Stmt) (ps : List Str) : Prop := ∃ (mc : Value) (p g : Addr) (fd : FuncData), ClX.CRead K C mc ∧ ClX.CMet K C mc m p g ∧ C8.Fun K m qual st g fd ∧ L2.Binds K fd ps []
theorem cmt0 {P : Program} {w : World} {K : PySem.W.Frag} {mg : Str → Option Value} {base : Heap} {m qual : Str} {C p g : Addr} {mc : Value} {st : Stmt} {fd : FuncData} {N ps : List Str} {k : Nat} {sp : Sp} (r : ClX.CRead K C mc) (cm : ClX.CMet K C mc m p g) (F : C8.Fun K m qual st g fd) (b : L2.Binds K fd ps []) (S : FnScope N ps (C8.fnScope st)) (len : ∀ vs H Q E, sp vs H Q E → vs.length = ps.length)
    (hbody : ∀ (cdv : Value) (A : Around) (outer : List Env) (s : Shared) (H : Hp) (vs : List V) (Q : VK) (E : XK), Room k (A.deeper (envOfC qual (C8.fnScope st) s.heap.objs.size g cdv)) → sp vs H Q E →
      ∃ t, PSs (cxOf C8.CX0 P w K mg base N qual (C8.fnScope st) g cdv A outer s H E).nox (C8.fnBody st) t ∧ t { nx := fun _ H' => Q .non H', rt := Q } (L2.start N vs) H) : CMt P w K mg base (k + 1) C m sp :=
  ⟨mc, p, g, r, cm, ((C8.fn0 F S len hbody).raw b .nil).imp fun vs H Q E h => by rw [List.append_nil]; exact h⟩
theorem szl {l : List Bool} (h : l.length ≤ 4194304) : (rowS l).length ≤ sizeLine := by rw [rowS_len]; have : sizeLine = 16777216 := sizeLine_eq; omega
theorem posl {l : List Bool} (h : l ≠ []) : 0 < ((rowS l).length : Int) := by rw [rowS_len]; have := prim_len h; omega
theorem le_szl (n : Nat) (h : n ≤ 16777216) : n ≤ sizeLine := by have : sizeLine = 16777216 := sizeLine_eq; omega
theorem le_szl' {n : Nat} (h : n < 16777216) : n < sizeLine := by have : sizeLine = 16777216 := sizeLine_eq; omega
theorem ne_of_new {H : Hp} {a b : Addr} {o : HO} (h : H a = none) (e : H b = some o) : b ≠ a := fun c => by rw [c, h] at e; cases e
theorem ne_of_new' {H : Hp} {a b : Addr} (h : H a = none) (e : ∃ kvs, H b = some (.dK kvs)) : a ≠ b := fun c => by
  obtain ⟨kvs, e⟩ := e
  rw [← c, h] at e
  cases e
end Od
end
section
set_option Elab.async false
set_option linter.all false
namespace Od
open PySem L2
def top (i : Nat) : Stmt := PySem.Challenge.pw_onewaydays_k02_forms_refused.main.body.getD i (.Pass ⟨0, 0, 0, 0⟩)
end Od
end
section
set_option Elab.async false
set_option linter.all false
set_option maxRecDepth 100000
set_option maxHeartbeats 2000000
namespace Od
open PySem PySem.Spec PyProof.Rows L2 C8 Day
abbrev s_divisor_of : Stmt := top 11
abbrev N_divisor_of : List Str := ["one", "two"]
abbrev P_divisor_of : List Str := ["one", "two"]
theorem sc_divisor_of : FnScope N_divisor_of P_divisor_of (C8.fnScope s_divisor_of) := fnScope_by (by decide +kernel)
abbrev s_multiple_of : Stmt := top 12
abbrev N_multiple_of : List Str := ["one", "two"]
abbrev P_multiple_of : List Str := ["one", "two"]
theorem sc_multiple_of : FnScope N_multiple_of P_multiple_of (C8.fnScope s_multiple_of) := fnScope_by (by decide +kernel)
abbrev s_root_of : Stmt := top 13
abbrev N_root_of : List Str := ["row", "size"]
abbrev P_root_of : List Str := ["row"]
theorem sc_root_of : FnScope N_root_of P_root_of (C8.fnScope s_root_of) := fnScope_by (by decide +kernel)
abbrev s_turned_row : Stmt := top 14
abbrev N_turned_row : List Str := ["row", "many", "at"]
abbrev P_turned_row : List Str := ["row", "many"]
theorem sc_turned_row : FnScope N_turned_row P_turned_row (C8.fnScope s_turned_row) := fnScope_by (by decide +kernel)
abbrev s_least_form : Stmt := top 15
abbrev N_least_form : List Str := ["left", "low", "middle", "right", "many"]
abbrev P_least_form : List Str := ["left", "low", "middle", "right"]
theorem sc_least_form : FnScope N_least_form P_least_form (C8.fnScope s_least_form) := fnScope_by (by decide +kernel)
abbrev s_bare_form : Stmt := top 16
abbrev N_bare_form : List Str := ["left", "low", "right", "row", "many"]
abbrev P_bare_form : List Str := ["left", "low", "right"]
theorem sc_bare_form : FnScope N_bare_form P_bare_form (C8.fnScope s_bare_form) := fnScope_by (by decide +kernel)
section
variable {P : Program} {w : World} {K : PySem.W.Frag} {mg : Str → Option Value} {base : Heap}
/-! ### divisor_of -/
def gcdI (a b : Int) : Int := ((Nat.gcd a.natAbs b.natAbs : Nat) : Int)
def sp_divisor_of : Sp := fun vs H Q _ => ∃ a b : Int, vs = [.int a, .int b] ∧ Q (.int (gcdI a b)) H
theorem abs_nat (a : Int) : (if a < 0 then -a else a) = (a.natAbs : Int) := by
  by_cases h : a < 0
  · rw [if_pos h]; omega
  · rw [if_neg h]; omega
theorem c_divisor_of (T : Txt K mg) (F : DefOf K mg "divisor_of" s_divisor_of P_divisor_of) : Cal P w K mg base 1 "divisor_of" sp_divisor_of [] := by
  obtain ⟨f, fd, F, B⟩ := F
  refine cal0 F B .nil sc_divisor_of (fun vs H Q E h => by obtain ⟨a, b, rfl, _⟩ := h; rfl) (fun cdv A outer s H vs Q E hr h => ?_)
  obtain ⟨a, b, rfl, q⟩ := h
  have nd := sc_divisor_of.nd
  refine ⟨_, (pss_cons (ps_par (i := 0) (j := 1) (by rfl) nd rfl rfl (by decide) rfl rfl (pa_cons (pe_callB call_abs (by rfl) T.b_abs (by decide +kernel) (pa_cons (pv 0) pa_nil)) (pa_cons (pe_callB call_abs (by rfl) T.b_abs (by decide +kernel) (pa_cons (pv 1) pa_nil)) pa_nil)) (by rfl))
      (C8.pss_cut (ps_while PassesOwn.never (pt_cmpR op_gt (pv 1) pe_int (nomark _)) (pss_one (ps_par (i := 0) (j := 1) (by rfl) nd rfl rfl (by decide) rfl rfl (pa_cons (pv 1) (pa_cons (pe_op op_mod (pv 0) (pv 1)) pa_nil)) (by rfl))))
      (pss_one (ps_ret (pv 0))))), ?_⟩
  refine ⟨_, rfl, _, rfl, _, rfl, _, rfl, _, _, rfl, ?_⟩
  rw [abs_nat, abs_nat]
  refine ⟨fun σ' H' => H' = H ∧ ∃ y, σ' = [some (V.int (gcdI a b)), y], ?_, fun σ' H' ⟨e1, y, e2⟩ => by subst e1; subst e2; exact ⟨_, rfl, q⟩⟩
  refine ⟨fun m σ' H' => ∃ x y : Nat, y = m ∧ σ' = [some (V.int (x : Int)), some (V.int (y : Int))] ∧ H' = H ∧ Nat.gcd x y = Nat.gcd a.natAbs b.natAbs, ⟨_, a.natAbs, b.natAbs, rfl, rfl, rfl, rfl⟩, ?_⟩
  rintro _ σ' H' ⟨x, y, rfl, rfl, rfl, e⟩
  refine ⟨_, rfl, _, _, rfl, rfl, _, rfl, ?_⟩
  refine ite2 (fun c => ?_) (fun c => ?_)
  · have hy : 0 < y := by have := of_decide_eq_true c; omega
    refine ⟨fun σ2 H2 => ∃ x' y' : Nat, y' < y ∧ σ2 = [some (V.int (x' : Int)), some (V.int (y' : Int))] ∧ H2 = H' ∧ Nat.gcd x' y' = Nat.gcd a.natAbs b.natAbs, fun σ2 H2 ⟨x', y', l, z1, z2, z3⟩ => ⟨y', l, x', y', rfl, z1, z2, z3⟩, ?_⟩
    refine ⟨_, rfl, _, rfl, _, rfl, _, _, rfl, rfl, (by show (0 : Int) < (y : Int); omega), _, _, rfl, ?_⟩
    refine ⟨y, x % y, Nat.mod_lt _ hy, by rw [Int.natCast_emod] <;> rfl, rfl, ?_⟩
    rw [← e, Nat.gcd_comm x y, Nat.gcd_rec y x]
    exact Nat.gcd_comm _ _
  · have hy : y = 0 := by
      have : ¬ (0 : Int) < (y : Int) := fun z => c (decide_eq_true z)
      omega
    subst hy
    rw [Nat.gcd_zero_right] at e
    refine ⟨rfl, some (V.int ((0 : Nat) : Int)), ?_⟩
    unfold gcdI
    rw [← e]
/-! ### multiple_of -/
def sp_multiple_of : Sp := fun vs H Q _ => ∃ a b : Nat, vs = [.int (a : Int), .int (b : Int)] ∧ 0 < a ∧ 0 < b ∧ a < 1073741824 ∧ b < 1073741824 ∧ Q (.int ((Nat.lcm a b : Nat) : Int)) H
theorem c_multiple_of (T : Txt K mg) (F : DefOf K mg "multiple_of" s_multiple_of P_multiple_of) (C_divisor_of : Cal P w K mg base 1 "divisor_of" sp_divisor_of []) : Cal P w K mg base 2 "multiple_of" sp_multiple_of [] := by
  obtain ⟨f, fd, F, B⟩ := F
  refine cal0 F B .nil sc_multiple_of (fun vs H Q E h => by obtain ⟨a, b, rfl, _⟩ := h; rfl) (fun cdv A outer s H vs Q E hr h => ?_)
  obtain ⟨a, b, rfl, ha, hb, la, lb, q⟩ := h
  have nd := sc_multiple_of.nd
  refine ⟨_, (pss_one (ps_ret (pe_op op_fdiv (pe_op op_mul (pv 0) (pv 1)) (pe_c C_divisor_of hr (by decide) rfl (pa_cons (pv 0) (pa_cons (pv 1) pa_nil)))))), ?_⟩
  have hg : 0 < Nat.gcd a b := Nat.gcd_pos_of_pos_left _ ha
  have hgl : Nat.gcd a b ≤ a := Nat.le_of_dvd ha (Nat.gcd_dvd_left _ _)
  refine ⟨_, rfl, _, rfl, _, _, rfl, rfl, ?_, _, rfl, _, rfl, (a : Int), (b : Int), rfl, _, _, rfl, rfl, ?_, ?_⟩
  · exact .inl ⟨by omega, by omega⟩
  · unfold gcdI
    rw [Int.natAbs_natCast, Int.natAbs_natCast]
    exact ⟨by omega, by omega⟩
  · have e : (a : Int) * (b : Int) / gcdI a b = ((Nat.lcm a b : Nat) : Int) := by
      unfold gcdI Nat.lcm
      rw [Int.natAbs_natCast, Int.natAbs_natCast, Int.natCast_ediv, Int.natCast_mul]
    show Q (.int ((a : Int) * (b : Int) / gcdI a b)) H
    rw [e]
    exact q
/-! ### root_of -/
def sp_root_of : Sp := fun vs H Q _ => ∃ l : List Bool, vs = [.str (rowS l)] ∧ l ≠ [] ∧ l.length ≤ 4194304 ∧ ∀ s, IsRoot l s → Q (.str (rowS s)) H
theorem root_test (l : List Bool) (t : Nat) (h0 : 1 ≤ t) (ht : t < l.length) : decide (V.int ((l.length : Int) % (t : Int)) = V.int 0) = decide (l.length % t = 0) := by
  by_cases c : l.length % t = 0
  · rw [decide_eq_true c, decide_eq_true]
    rw [← Int.natCast_emod, c]; rfl
  · rw [decide_eq_false c, decide_eq_false]
    intro e
    injection e with e
    rw [← Int.natCast_emod] at e
    exact c (by omega)
theorem c_root_of (T : Txt K mg) (F : DefOf K mg "root_of" s_root_of P_root_of) : Cal P w K mg base 1 "root_of" sp_root_of [] := by
  obtain ⟨f, fd, F, B⟩ := F
  refine cal0 F B .nil sc_root_of (fun vs H Q E h => by obtain ⟨a, rfl, _⟩ := h; rfl) (fun cdv A outer s H vs Q E hr h => ?_)
  obtain ⟨l, rfl, l0, ll, q⟩ := h
  have nd := sc_root_of.nd
  have hsz : (rowS l).length ≤ sizeLine := by rw [rowS_len]; have : sizeLine = 16777216 := sizeLine_eq; omega
  refine ⟨_, (C8.pss_cut (ps_for PassesOwn.never rfl (pi_range2 (by rfl) T.b_range (pa_cons pe_int (pa_cons (pe_callB call_len_str (by rfl) T.b_len (by decide +kernel) (pa_cons (pv 0) pa_nil)) pa_nil))) (pg_name (i := 1) nd rfl (Or.inl rfl)) (pss_one (ps_if (PW.pt (pw_and (pt_cmpR op_eq (pe_op op_mod (pe_callB call_len_str (by rfl) T.b_len (by decide +kernel) (pa_cons (pv 0) pa_nil)) (pv 1)) pe_int (nomark _)) (pw_and1 (pt_cmpR op_eq (pe_op op_mulS (pe_slice sl_str (pv 0) po_none (po_some (pv 1))) (pe_op op_fdiv (pe_callB call_len_str (by rfl) T.b_len (by decide +kernel) (pa_cons (pv 0) pa_nil)) (pv 1))) (pv 0) (nomark _))))) (pss_one (ps_ret (pe_slice sl_str (pv 0) po_none (po_some (pv 1))))) pss_nil)))
      (pss_one (ps_ret (pv 0)))), ?_⟩
  have l1 : 0 < l.length := prim_len l0
  refine ⟨fun σ' H' => H' = H ∧ (∃ x, σ' = [some (.str (rowS l)), x]) ∧ ∀ t, 1 ≤ t → t < l.length → ¬ Root l t, ?_, fun σ' H' ⟨e1, ⟨x, e2⟩, hb⟩ => by subst e1; subst e2; exact ⟨_, rfl, q l (isRoot_self l0 hb)⟩⟩
  refine ⟨_, rfl, _, rfl, hsz, _, _, rfl, ?_, ?_⟩
  · rw [rowS_len]; exact ⟨by decide, by decide, by omega, by omega⟩
  rw [rowS_len]
  have en : ((l.length : Int) - 1).toNat = l.length - 1 := by omega
  rw [en]
  refine for_range (fun i σ' H' => H' = H ∧ (∃ x, σ' = [some (.str (rowS l)), x]) ∧ ∀ t, 1 ≤ t → t < 1 + i → ¬ Root l t) ⟨rfl, ⟨_, rfl⟩, fun t h1 h2 => by omega⟩ ?_ ?_
  · rintro i σ' H' hi ⟨rfl, ⟨x, rfl⟩, hb⟩
    have et : (1 : Int) + (i : Int) = ((1 + i : Nat) : Int) := by omega
    rw [et]
    have ht : 1 + i < l.length := by omega
    have cp : ((1 + i : Nat) : Int) > 0 := by omega
    refine ⟨_, rfl, _, rfl, hsz, _, rfl, _, _, rfl, rfl, cp, rfl, _, rfl, ?_⟩
    rw [rowS_len]
    show if decide (V.int ((l.length : Int) % ((1 + i : Nat) : Int)) = V.int 0) = true then _ else _
    rw [root_test l _ (by omega) ht]
    refine ite2 (fun c => ?_) (fun c => ?_)
    · have hm : l.length % (1 + i) = 0 := of_decide_eq_true c
      have hq : 1 ≤ l.length / (1 + i) := (Nat.le_div_iff_mul_le (by omega)).mpr (by omega)
      have hq2 : l.length / (1 + i) ≤ l.length := Nat.div_le_self _ _
      have hm2 : (1 + i) * (l.length / (1 + i)) = l.length := by
        have := Nat.div_add_mod l.length (1 + i); omega
      have cd : CDiv (l.length : Int) ((1 + i : Nat) : Int) := ⟨by omega, by omega⟩
      refine ⟨_, rfl, _, rfl, _, rfl, _, rfl, hsz, _, rfl, _, rfl, hsz, _, rfl, _, _, rfl, rfl, by rw [rowS_len]; exact cd, _, l.length / (1 + i), rfl, ?_, ?_, ?_, _, rfl, rfl, _, rfl, ?_⟩
      · rw [rowS_len, Int.natCast_ediv]
      · rw [rowS_to l _ (by omega), rowS_len, List.length_take, Nat.min_eq_left (by omega), hm2]
        omega
      · omega
      · rw [rowS_to l _ (by omega), rowS_mul, rowS_dec]
        refine ite2 (fun c2 => ?_) (fun c2 => ?_)
        · have hr : Root l (1 + i) := ⟨hm, of_decide_eq_true c2⟩
          refine ⟨_, rfl, _, rfl, _, rfl, _, rfl, hsz, ?_⟩
          rw [rowS_to l _ (by omega)]
          exact q _ (isRoot_take (by omega) ht hr fun t h1 h2 => hb t h1 h2)
        · refine ⟨rfl, ⟨_, rfl⟩, fun t h1 h2 => ?_⟩
          by_cases e : t = 1 + i
          · subst e
            exact fun r => c2 (decide_eq_true r.2)
          · exact hb t h1 (by omega)
    · refine ⟨rfl, ⟨_, rfl⟩, fun t h1 h2 => ?_⟩
      by_cases e : t = 1 + i
      · subst e
        exact fun r => c (decide_eq_true r.1)
      · exact hb t h1 (by omega)
  · rintro σ' H' ⟨rfl, ⟨x, rfl⟩, hb⟩
    exact ⟨rfl, ⟨_, rfl⟩, fun t h1 h2 => hb t h1 (by omega)⟩
/-! ### turned_row -/
def sp_turned_row : Sp := fun vs H Q _ => ∃ (l : List Bool) (k : Int), vs = [.str (rowS l), .int k] ∧ l ≠ [] ∧ l.length ≤ 4194304 ∧ Q (.str (rowS (turn l k))) H
theorem c_turned_row (T : Txt K mg) (F : DefOf K mg "turned_row" s_turned_row P_turned_row) : Cal P w K mg base 1 "turned_row" sp_turned_row [] := by
  obtain ⟨f, fd, F, B⟩ := F
  refine cal0 F B .nil sc_turned_row (fun vs H Q E h => by obtain ⟨a, b, rfl, _⟩ := h; rfl) (fun cdv A outer s H vs Q E hr h => ?_)
  obtain ⟨l, k, rfl, l0, ll, q⟩ := h
  have nd := sc_turned_row.nd
  have hsz := szl ll
  refine ⟨_, (pss_cons (ps_set (i := 2) nd rfl (Or.inl rfl) (pe_op op_mod (pv 1) (pe_callB call_len_str (by rfl) T.b_len (by decide +kernel) (pa_cons (pv 0) pa_nil))))
      (pss_one (ps_ret (pe_op op_add_str (pe_slice sl_str (pv 0) (po_some (pv 2)) po_none) (pe_slice sl_str (pv 0) po_none (po_some (pv 2))))))), ?_⟩
  refine ⟨_, rfl, _, rfl, _, rfl, hsz, _, _, rfl, rfl, posl l0, ?_⟩
  rw [rowS_len]
  have l1 := prim_len l0
  have hk : k % (l.length : Int) = ((k % (l.length : Int)).toNat : Int) := by have := Int.emod_nonneg k (show (l.length : Int) ≠ 0 by omega); omega
  have hk2 : (k % (l.length : Int)).toNat ≤ l.length := by have := Int.emod_lt_of_pos k (show (0 : Int) < (l.length : Int) by omega); omega
  refine ⟨_, rfl, _, rfl, _, rfl, _, rfl, hsz, _, rfl, _, rfl, _, rfl, _, rfl, hsz, _, _, rfl, rfl, ?_, ?_⟩
  · rw [hk, rowS_from l _ hk2, rowS_to l _ hk2, rowS_len, rowS_len, List.length_drop, List.length_take]
    have : sizeLine = 16777216 := sizeLine_eq
    omega
  · have e : cutS (rowS l) (some (k % (l.length : Int))) none ++ cutS (rowS l) none (some (k % (l.length : Int))) = rowS (turn l k) := by
      rw [hk, rowS_from l _ hk2, rowS_to l _ hk2, rowS_cat]
      rfl
    show Q (.str (cutS (rowS l) (some (k % (l.length : Int))) none ++ cutS (rowS l) none (some (k % (l.length : Int))))) H
    rw [e]
    exact q
/-! ### bare_form -/
structure Sz (F : Frm) : Prop where
  l : F.l.length ≤ 4194304
  m : F.m.length ≤ 4194304
  r : F.r.length ≤ 4194304
def frmV (F : Frm) : List V := [.str (rowS F.l), .int F.low, .str (rowS F.m), .str (rowS F.r)]
/-- a new tuple with the least form of what l, low, m, r tell -/
def toForm (l : List Bool) (low : Int) (m r : List Bool) (H : Hp) (Q : VK) : Prop := ∀ F, Least F → (∀ n, F.mem n = (Frm.mk l low m r).mem n) → Sz F → ∀ p H', Le H H' → H' p = some (.tup (frmV F)) → Q (.ref p) H'
def sp_bare_form : Sp := fun vs H Q _ => ∃ (l : List Bool) (low : Int) (r : List Bool), vs = [.str (rowS l), .int low, .str (rowS r)] ∧ l ≠ [] ∧ r ≠ [] ∧ Prim l ∧ Prim r ∧ l.length ≤ 4194304 ∧ r.length ≤ 4194304 ∧ toForm l low [] r H Q
theorem c_bare_form (T : Txt K mg) (F : DefOf K mg "bare_form" s_bare_form P_bare_form) (C_turned_row : Cal P w K mg base 1 "turned_row" sp_turned_row []) : Cal P w K mg base 2 "bare_form" sp_bare_form [] := by
  obtain ⟨f, fd, F, B⟩ := F
  refine cal0 F B .nil sc_bare_form (fun vs H Q E h => by obtain ⟨a, b, c, rfl, _⟩ := h; rfl) (fun cdv A outer s H vs Q E hr h => ?_)
  obtain ⟨l, low, r, rfl, l0, r0, pl, pr, ll, lr, q⟩ := h
  have nd := sc_bare_form.nd
  have hl := szl ll
  have hrr := szl lr
  refine ⟨_, (pss_cons (ps_if (pt_cmpR op_eq (pv 0) (pv 2) (nomark _)) (pss_cons (ps_set (i := 3) nd rfl (Or.inl rfl) (pe_c C_turned_row hr (by decide) rfl (pa_cons (pv 2) (pa_cons (pe_un un_neg (pv 1)) pa_nil))))
      (pss_one (ps_ret (pe_tup (pa_cons (pv 3) (pa_cons pe_int (pa_cons pe_str (pa_cons (pv 3) pa_nil)))))))) pss_nil)
      (pss_cons (ps_set (i := 4) nd rfl (Or.inl rfl) pe_int)
      (C8.pss_cut (ps_while PassesOwn.never (pt_cmpR op_eq (pe_ix ix_str (pv 0) (pe_op op_sub (pe_un un_neg pe_int) (pe_op op_mod (pv 4) (pe_callB call_len_str (by rfl) T.b_len (by decide +kernel) (pa_cons (pv 0) pa_nil)))) (fun _ _ => rfl)) (pe_ix ix_str (pv 2) (pe_op op_sub (pe_un un_neg pe_int) (pe_op op_mod (pv 4) (pe_callB call_len_str (by rfl) T.b_len (by decide +kernel) (pa_cons (pv 2) pa_nil)))) (fun _ _ => rfl)) (nomark _)) (pss_one (ps_aug (i := 4) nd rfl (Or.inl rfl) pe_int ip_add)))
      (pss_one (ps_ret (pe_tup (pa_cons (pe_c C_turned_row hr (by decide) rfl (pa_cons (pv 0) (pa_cons (pe_un un_neg (pv 4)) pa_nil))) (pa_cons (pe_op op_sub (pv 1) (pv 4)) (pa_cons pe_str (pa_cons (pe_c C_turned_row hr (by decide) rfl (pa_cons (pv 2) (pa_cons (pe_un un_neg (pv 4)) pa_nil))) pa_nil)))))))))), ?_⟩
  refine ⟨_, rfl, _, rfl, rfl, _, rfl, ?_⟩
  rw [rowS_dec]
  refine ite2 (fun c => ?_) (fun c => ?_)
  · have e : l = r := of_decide_eq_true c
    subst e
    refine ⟨_, rfl, _, rfl, _, rfl, _, _, rfl, l0, ll, ?_⟩
    refine ⟨_, rfl, _, rfl, ?_, ?_⟩
    · exact le_szl 4 (by decide)
    · intro p hp
      have L := least_bare_all low l0 pl
      refine q _ L.1 L.2 ⟨by show (turn l _).length ≤ _; rw [turn_len]; exact ll, Nat.zero_le _, by show (turn l _).length ≤ _; rw [turn_len]; exact ll⟩ p _ (Le.new hp) ?_
      rw [upd_self]
      show _ = some (HO.tup [.str (rowS (turn l (-low))), .int 0, .str (rowS []), .str (rowS (turn l (-low)))])
      rw [rowS_nil]
  · have ne : l ≠ r := fun e => c (decide_eq_true e)
    obtain ⟨i0, hi0, hd⟩ := bare_part l0 r0 pl pr ne
    refine ⟨fun σ' H' => ∃ k : Nat, σ' = [some (.str (rowS l)), some (.int low), some (.str (rowS r)), none, some (.int (k : Int))] ∧ H' = H ∧ (∀ i, i < k → cyc l (-1 - (i : Int)) = cyc r (-1 - (i : Int))) ∧ cyc l (-1 - (k : Int)) ≠ cyc r (-1 - (k : Int)), ?_, ?_⟩
    rotate_left
    · rintro σ' H' ⟨k, rfl, rfl, hb, hk⟩
      refine ⟨_, rfl, _, rfl, _, rfl, _, _, rfl, l0, ll, ?_⟩
      refine ⟨_, rfl, _, rfl, _, _, rfl, rfl, _, rfl, _, rfl, _, rfl, _, _, rfl, r0, lr, ?_, ?_⟩
      · exact le_szl 4 (by decide)
      · intro p hp
        have L := least_bare low l0 r0 pl pr hb hk
        refine q _ L.1 L.2 ⟨by show (turn l _).length ≤ _; rw [turn_len]; exact ll, Nat.zero_le _, by show (turn r _).length ≤ _; rw [turn_len]; exact lr⟩ p _ (Le.new hp) ?_
        rw [upd_self]
        show _ = some (HO.tup [.str (rowS (turn l (-(k : Int)))), .int (low - k), .str (rowS []), .str (rowS (turn r (-(k : Int))))])
        rw [rowS_nil]
    refine ⟨fun m σ' H' => ∃ k : Nat, m = i0 - k ∧ σ' = [some (.str (rowS l)), some (.int low), some (.str (rowS r)), none, some (.int (k : Int))] ∧ H' = H ∧ ∀ i, i < k → cyc l (-1 - (i : Int)) = cyc r (-1 - (i : Int)), ⟨_, 0, rfl, rfl, rfl, fun i hi => absurd hi (Nat.not_lt_zero _)⟩, ?_⟩
    rintro m σ' H' ⟨k, rfl, rfl, rfl, hb⟩
    refine ⟨_, rfl, _, rfl, _, rfl, _, rfl, _, rfl, hl, _, _, rfl, rfl, posl l0, _, _, rfl, rfl, _, _, _, rfl, rfl, hl, by rw [rowS_len]; exact rowS_back l0 _, _, rfl, _, rfl, _, rfl, _, rfl, _, rfl, hrr, _, _, rfl, rfl, posl r0, _, _, rfl, rfl, _, _, _, rfl, rfl, hrr, by rw [rowS_len]; exact rowS_back r0 _, rfl, _, rfl, ?_⟩
    rw [sgn_dec]
    refine ite2 (fun c => ?_) (fun c => ?_)
    · have hk : cyc l (-1 - (k : Int)) = cyc r (-1 - (k : Int)) := of_decide_eq_true c
      have hlt : k < i0 := by
        rcases Nat.lt_trichotomy k i0 with h | h | h
        · exact h
        · subst h; exact absurd hk hd
        · exact absurd (hb i0 h) hd
      refine ⟨fun σ2 H2 => ∃ k2 : Nat, k2 = k + 1 ∧ σ2 = [some (.str (rowS l)), some (.int low), some (.str (rowS r)), none, some (.int (k2 : Int))] ∧ H2 = H', fun σ2 H2 ⟨k2, e, z1, z2⟩ => ⟨i0 - k2, by omega, k2, rfl, z1, z2, fun i hi => by
        by_cases e2 : i = k
        · subst e2; exact hk
        · exact hb i (by omega)⟩, ?_⟩
      refine ⟨_, rfl, _, _, rfl, rfl, ?_⟩
      exact ⟨k + 1, rfl, rfl, rfl⟩
    · have hk : cyc l (-1 - (k : Int)) ≠ cyc r (-1 - (k : Int)) := fun e => c (decide_eq_true e)
      exact ⟨k, rfl, rfl, hb, hk⟩
/-! ### least_form -/
theorem mem_alike {l l' m r r' : List Bool} {low : Int} (hl : ∀ z, cyc l' z = cyc l z) (hr : ∀ z, cyc r' z = cyc r z) (n : Int) : (Frm.mk l' low m r').mem n = (Frm.mk l low m r).mem n := by
  unfold Frm.mem Frm.high
  simp only [hl, hr]
theorem _root_.Day.IsRoot.len {l s : List Bool} (h : IsRoot l s) (l0 : l ≠ []) : s.length ≤ l.length := by
  have h1 := prim_len l0
  have := h.pr (l.length : Int) (by omega) (fun z => by rw [h.eq, h.eq, cyc_per])
  omega
def sp_least_form : Sp := fun vs H Q _ => ∃ (l : List Bool) (low : Int) (m r : List Bool), vs = [.str (rowS l), .int low, .str (rowS m), .str (rowS r)] ∧ l ≠ [] ∧ r ≠ [] ∧ l.length ≤ 4194304 ∧ m.length ≤ 4194304 ∧ r.length ≤ 4194304 ∧ toForm l low m r H Q
theorem c_least_form (T : Txt K mg) (F : DefOf K mg "least_form" s_least_form P_least_form) (C_root_of : Cal P w K mg base 1 "root_of" sp_root_of []) (C_turned_row : Cal P w K mg base 1 "turned_row" sp_turned_row []) (C_bare_form : Cal P w K mg base 2 "bare_form" sp_bare_form []) : Cal P w K mg base 3 "least_form" sp_least_form [] := by
  obtain ⟨f, fd, F, B⟩ := F
  refine cal0 F B .nil sc_least_form (fun vs H Q E h => by obtain ⟨a, b, c, d, rfl, _⟩ := h; rfl) (fun cdv A outer s H vs Q E hr h => ?_)
  obtain ⟨l, low, m, r, rfl, l0, r0, ll, lm, lr, q⟩ := h
  have nd := sc_least_form.nd
  refine ⟨_, (pss_cons (ps_par (i := 0) (j := 3) (by rfl) nd rfl rfl (by decide) rfl rfl (pa_cons (pe_c C_root_of hr (by decide) rfl (pa_cons (pv 0) pa_nil)) (pa_cons (pe_c C_root_of hr (by decide) rfl (pa_cons (pv 3) pa_nil)) pa_nil)) (by rfl))
      (pss_cons (ps_set (i := 4) nd rfl (Or.inl rfl) pe_int)
      (C8.pss_cut (ps_while PassesOwn.never (PW.pt (pw_and (pt_cmpR op_lt (pv 4) (pe_callB call_len_str (by rfl) T.b_len (by decide +kernel) (pa_cons (pv 2) pa_nil)) (nomark _)) (pw_and1 (pt_cmpR op_eq (pe_ix ix_str (pv 2) (pe_op op_sub (pe_op op_sub (pe_callB call_len_str (by rfl) T.b_len (by decide +kernel) (pa_cons (pv 2) pa_nil)) pe_int) (pv 4)) (fun _ _ => rfl)) (pe_ix ix_str (pv 3) (pe_op op_sub (pe_un un_neg pe_int) (pe_op op_mod (pv 4) (pe_callB call_len_str (by rfl) T.b_len (by decide +kernel) (pa_cons (pv 3) pa_nil)))) (fun _ _ => rfl)) (nomark _))))) (pss_one (ps_aug (i := 4) nd rfl (Or.inl rfl) pe_int ip_add)))
      (pss_cons (ps_set (i := 2) nd rfl (Or.inl rfl) (pe_slice sl_str (pv 2) po_none (po_some (pe_op op_sub (pe_callB call_len_str (by rfl) T.b_len (by decide +kernel) (pa_cons (pv 2) pa_nil)) (pv 4)))))
      (pss_cons (ps_set (i := 3) nd rfl (Or.inl rfl) (pe_c C_turned_row hr (by decide) rfl (pa_cons (pv 3) (pa_cons (pe_un un_neg (pv 4)) pa_nil))))
      (pss_cons (ps_if (pt_cmpR op_eq (pv 2) pe_str (nomark _)) (pss_one (ps_ret (pe_c C_bare_form hr (by decide) rfl (pa_cons (pv 0) (pa_cons (pv 1) (pa_cons (pv 3) pa_nil)))))) pss_nil)
      (pss_cons (ps_set (i := 4) nd rfl (Or.inl rfl) pe_int)
      (C8.pss_cut (ps_while PassesOwn.never (PW.pt (pw_and (pt_cmpR op_lt (pv 4) (pe_callB call_len_str (by rfl) T.b_len (by decide +kernel) (pa_cons (pv 2) pa_nil)) (nomark _)) (pw_and1 (pt_cmpR op_eq (pe_ix ix_str (pv 2) (pv 4) (fun _ _ => rfl)) (pe_ix ix_str (pv 0) (pe_op op_mod (pv 4) (pe_callB call_len_str (by rfl) T.b_len (by decide +kernel) (pa_cons (pv 0) pa_nil))) (fun _ _ => rfl)) (nomark _))))) (pss_one (ps_aug (i := 4) nd rfl (Or.inl rfl) pe_int ip_add)))
      (pss_one (ps_ret (pe_tup (pa_cons (pe_c C_turned_row hr (by decide) rfl (pa_cons (pv 0) (pa_cons (pv 4) pa_nil))) (pa_cons (pe_op op_add (pv 1) (pv 4)) (pa_cons (pe_slice sl_str (pv 2) (po_some (pv 4)) po_none) (pa_cons (pv 3) pa_nil))))))))))))))), ?_⟩
  refine ⟨_, rfl, l, rfl, l0, ll, fun l' hl' => ?_⟩
  refine ⟨_, rfl, r, rfl, r0, lr, fun r' hr' => ?_⟩
  refine ⟨_, _, rfl, ?_⟩
  have sl := szl (Nat.le_trans (hl'.len l0) ll)
  have sm := szl lm
  have sr := szl (Nat.le_trans (hr'.len r0) lr)
  refine ⟨fun σ' H' => ∃ k : Nat, σ' = [some (.str (rowS l')), some (.int low), some (.str (rowS m)), some (.str (rowS r')), some (.int (k : Int))] ∧ H' = H ∧ k ≤ m.length ∧ (∀ i, i < k → m.getD (m.length - 1 - i) false = cyc r' (-1 - (i : Int))) ∧ (k = m.length ∨ m.getD (m.length - 1 - k) false ≠ cyc r' (-1 - (k : Int))), ?_, ?_⟩
  · refine ⟨fun n σ' H' => ∃ k : Nat, n = m.length - k ∧ σ' = [some (.str (rowS l')), some (.int low), some (.str (rowS m)), some (.str (rowS r')), some (.int (k : Int))] ∧ H' = H ∧ k ≤ m.length ∧ (∀ i, i < k → m.getD (m.length - 1 - i) false = cyc r' (-1 - (i : Int))), ⟨_, 0, rfl, rfl, rfl, Nat.zero_le _, fun i hi => absurd hi (Nat.not_lt_zero _)⟩, ?_⟩
    rintro n σ' H' ⟨k, rfl, rfl, rfl, hk, hb⟩
    refine ⟨_, rfl, _, rfl, _, rfl, sm, _, _, rfl, rfl, _, rfl, ?_⟩
    rw [rowS_len]
    refine ite2 (fun c => ?_) (fun c => ?_)
    · have hlt : k < m.length := by have := of_decide_eq_true c; omega
      have ei : ((m.length : Int) - 1 - (k : Int)) = ((m.length - 1 - k : Nat) : Int) := by omega
      refine ⟨_, rfl, _, rfl, _, rfl, sm, _, _, rfl, rfl, _, rfl, _, _, rfl, rfl, _, _, _, rfl, rfl, sm, by rw [rowS_len, ei]; exact rowS_at (by omega), _, rfl, _, rfl, _, rfl, _, rfl, _, rfl, sr, _, _, rfl, rfl, posl hr'.ne, _, _, rfl, rfl, _, _, _, rfl, rfl, sr, by rw [rowS_len]; exact rowS_back hr'.ne _, rfl, _, rfl, ?_⟩
      rw [sgn_dec]
      refine ite2 (fun c2 => ?_) (fun c2 => ?_)
      · have e2 := of_decide_eq_true c2
        refine ⟨fun σ2 H2 => ∃ k2 : Nat, k2 = k + 1 ∧ σ2 = [some (.str (rowS l')), some (.int low), some (.str (rowS m)), some (.str (rowS r')), some (.int (k2 : Int))] ∧ H2 = H', fun σ2 H2 ⟨k2, e, z1, z2⟩ => ⟨m.length - k2, by omega, k2, rfl, z1, z2, by omega, fun i hi => by
          by_cases e3 : i = k
          · subst e3; exact e2
          · exact hb i (by omega)⟩, ?_⟩
        exact ⟨_, rfl, _, _, rfl, rfl, k + 1, rfl, rfl, rfl⟩
      · exact ⟨k, rfl, rfl, hk, hb, .inr fun e => c2 (decide_eq_true e)⟩
    · have he : k = m.length := by
        have : ¬ ((k : Int) < (m.length : Int)) := fun h => c (decide_eq_true h)
        omega
      exact ⟨k, rfl, rfl, hk, hb, .inl he⟩
  rintro σ' H' ⟨k, rfl, rfl, hk, hb, he⟩
  have ek : ((m.length : Int) - (k : Int)) = ((m.length - k : Nat) : Int) := by omega
  refine ⟨_, rfl, _, rfl, _, rfl, sm, _, rfl, _, _, rfl, rfl, _, rfl, _, rfl, sm, ?_⟩
  rw [rowS_len]
  have ec : cutS (rowS m) none (some ((m.length : Int) - (k : Int))) = rowS (m.take (m.length - k)) := by rw [ek]; exact rowS_to m _ (by omega)
  show tSeq _ _ _ _ _
  rw [ec]
  have ml : (m.take (m.length - k)).length = m.length - k := by rw [List.length_take]; omega
  refine ⟨_, rfl, _, rfl, _, rfl, r', -(k : Int), rfl, hr'.ne, Nat.le_trans (hr'.len r0) lr, ?_⟩
  have r2n : turn r' (-(k : Int)) ≠ [] := turn_ne hr'.ne
  have r2p : Prim (turn r' (-(k : Int))) := turn_prim hr'.ne _ hr'.pr
  have r2l : (turn r' (-(k : Int))).length ≤ 4194304 := by rw [turn_len]; exact Nat.le_trans (hr'.len r0) lr
  have m1 : ∀ n, (Frm.mk l' low (m.take (m.length - k)) (turn r' (-(k : Int)))).mem n = (Frm.mk l low m r).mem n := fun n => by
    rw [mem_back hr'.ne hk hb, mem_alike hl'.eq hr'.eq]
  refine ⟨_, rfl, rfl, _, rfl, ?_⟩
  have ed : decide (V.str (rowS (m.take (m.length - k))) = V.str ("" : Str)) = decide (m.take (m.length - k) = []) := by rw [← rowS_nil, rowS_dec]
  show if decide (V.str (rowS (m.take (m.length - k))) = V.str ("" : Str)) = true then _ else _
  rw [ed]
  refine ite2 (fun c => ?_) (fun c => ?_)
  · have e : m.take (m.length - k) = [] := of_decide_eq_true c
    refine ⟨_, rfl, _, rfl, _, rfl, l', low, _, rfl, hl'.ne, r2n, hl'.pr, r2p, Nat.le_trans (hl'.len l0) ll, r2l, fun F hF hm hz p H2 le e2 => q F hF (fun n => ?_) hz p H2 le e2⟩
    rw [hm, ← m1, e]
  have m0 : m.take (m.length - k) ≠ [] := fun e => c (decide_eq_true e)
  have hkl : k < m.length := by
    rcases he with e | _
    · exfalso; apply m0; apply List.eq_nil_of_length_eq_zero; omega
    · rcases Nat.lt_or_ge k m.length with h | h
      · exact h
      · exfalso; apply m0; apply List.eq_nil_of_length_eq_zero; omega
  have hodd : (m.take (m.length - k)).getD ((m.take (m.length - k)).length - 1) false ≠ cyc (turn r' (-(k : Int))) (-1) := by
    rw [ml, take_getD m (by omega), turn_cyc hr'.ne]
    rcases he with e | e
    · omega
    · rw [show m.length - k - 1 = m.length - 1 - k by omega, show (-1 : Int) + -(k : Int) = -1 - (k : Int) by omega]
      exact e
  have sm' : (rowS (m.take (m.length - k))).length ≤ sizeLine := szl (by rw [ml]; omega)
  have lm' : (m.take (m.length - k)).length ≤ 4194304 := by rw [ml]; omega
  generalize hM : m.take (m.length - k) = M at *
  generalize hR : turn r' (-(k : Int)) = R at *
  refine ⟨fun σ' H2 => ∃ j : Nat, σ' = [some (.str (rowS l')), some (.int low), some (.str (rowS M)), some (.str (rowS R)), some (.int (j : Int))] ∧ H2 = H' ∧ j ≤ M.length ∧ (∀ i, i < j → M.getD i false = cyc l' (i : Int)) ∧ (j = M.length ∨ M.getD j false ≠ cyc l' (j : Int)), ?_, ?_⟩
  · refine ⟨fun n σ' H2 => ∃ j : Nat, n = M.length - j ∧ σ' = [some (.str (rowS l')), some (.int low), some (.str (rowS M)), some (.str (rowS R)), some (.int (j : Int))] ∧ H2 = H' ∧ j ≤ M.length ∧ (∀ i, i < j → M.getD i false = cyc l' (i : Int)), ⟨_, 0, rfl, rfl, rfl, Nat.zero_le _, fun i hi => absurd hi (Nat.not_lt_zero _)⟩, ?_⟩
    rintro n σ' H2 ⟨j, rfl, rfl, rfl, hj, hb2⟩
    refine ⟨_, rfl, _, rfl, _, rfl, sm', _, _, rfl, rfl, _, rfl, ?_⟩
    rw [rowS_len]
    refine ite2 (fun c => ?_) (fun c => ?_)
    · have hlt : j < M.length := by have := of_decide_eq_true c; omega
      refine ⟨_, rfl, _, rfl, _, _, _, rfl, rfl, sm', rowS_at hlt, _, rfl, _, rfl, _, rfl, _, rfl, sl, _, _, rfl, rfl, posl hl'.ne, _, _, _, rfl, rfl, sl, by rw [rowS_len]; exact rowS_cyc hl'.ne _, rfl, _, rfl, ?_⟩
      rw [sgn_dec]
      refine ite2 (fun c2 => ?_) (fun c2 => ?_)
      · have e2 := of_decide_eq_true c2
        refine ⟨fun σ2 H3 => ∃ k2 : Nat, k2 = j + 1 ∧ σ2 = [some (.str (rowS l')), some (.int low), some (.str (rowS M)), some (.str (rowS R)), some (.int (k2 : Int))] ∧ H3 = H2, fun σ2 H3 ⟨k2, e, z1, z2⟩ => ⟨M.length - k2, by omega, k2, rfl, z1, z2, by omega, fun i hi => by
          by_cases e3 : i = j
          · subst e3; exact e2
          · exact hb2 i (by omega)⟩, ?_⟩
        exact ⟨_, rfl, _, _, rfl, rfl, j + 1, rfl, rfl, rfl⟩
      · exact ⟨j, rfl, rfl, hj, hb2, .inr fun e => c2 (decide_eq_true e)⟩
    · have he : j = M.length := by
        have : ¬ ((j : Int) < (M.length : Int)) := fun h => c (decide_eq_true h)
        omega
      exact ⟨j, rfl, rfl, hj, hb2, .inl he⟩
  rintro σ' H2 ⟨j, rfl, rfl, hj, hb2, he2⟩
  have L := least_mid low hl'.ne r2n hl'.pr r2p m0 hodd hj hb2 he2
  refine ⟨_, rfl, _, rfl, l', (j : Int), rfl, hl'.ne, Nat.le_trans (hl'.len l0) ll, ?_⟩
  refine ⟨_, rfl, _, rfl, _, _, rfl, rfl, _, rfl, _, rfl, _, rfl, _, rfl, sm', _, rfl, le_szl 4 (by decide), fun p hp => ?_⟩
  refine q _ L.1 (fun n => by rw [L.2, m1]) ⟨by show (turn l' _).length ≤ _; rw [turn_len]; exact Nat.le_trans (hl'.len l0) ll, by show (M.drop j).length ≤ _; rw [List.length_drop]; omega, r2l⟩ p _ (Le.new hp) ?_
  rw [upd_self]
  show _ = some (HO.tup [.str (rowS (turn l' (j : Int))), .int (low + (j : Int)), .str (rowS (M.drop j)), .str (rowS R)])
  rw [← rowS_from M j hj]
end
end Od
end
section
set_option Elab.async false
set_option linter.all false
set_option maxRecDepth 100000
set_option maxHeartbeats 2000000
set_option autoImplicit false
namespace Od
open PySem PySem.Spec PyProof.Rows L2 C8 Day
/-- what the text has written of the class DaySet -/
structure DSC (K : PySem.W.Frag) (mg : Str → Option Value) (C : Addr) : Prop where
  cl : Cls K C
  c : mg "DaySet" = some (.ref C)
  g : ∃ u, mg "DaySet" = some u ∧ L2.RelV (.ref C) u
  n_left : NoAttr K C "left"
  n_low : NoAttr K C "low"
  n_middle : NoAttr K C "middle"
  n_right : NoAttr K C "right"
  n_high : NoAttr K C "high"
  sf : PySem.W.selfFirst K C = true
  ne : PySem.W.findIn K (.ref C) "__ne__" = some (some (.builtin "object.__ne__"))
  ob : PySem.W.mroIn K C (.type "object") = some true
  ha : PySem.W.findIn K (.ref C) "__class__" = some (some (.builtin "object.__class__"))
  hn : PySem.W.specialIn K (.builtin "object.__class__") "__get__" = some (some (.builtin "getset_descriptor.__get__"))
  htk : PySem.W.takesIn K (.builtin "object.__class__") = some true
  isi : PySem.W.kitOne K (.ref C) (.ref C) = some true
  si : PySem.W.subIn K (.type "int") (.ref C) = some false
  r_rshift : PySem.W.findIn K (.ref C) (dunderR "rshift") = some none
  r_lshift : PySem.W.findIn K (.ref C) (dunderR "lshift") = some none
  i_rshift : PySem.W.findIn K (.type "int") (PySem.dunder "rshift") = some (some (.builtin "int.__rshift__"))
  i_lshift : PySem.W.findIn K (.type "int") (PySem.dunder "lshift") = some (some (.builtin "int.__lshift__"))
  i_rrshift : PySem.W.findIn K (.type "int") (dunderR "rshift") = some (some (.builtin "int.__rrshift__"))
  i_rlshift : PySem.W.findIn K (.type "int") (dunderR "lshift") = some (some (.builtin "int.__rlshift__"))
def fldF (F : Frm) : List (Str × V) := [("left", .str (rowS F.l)), ("low", .int F.low), ("middle", .str (rowS F.m)), ("right", .str (rowS F.r)), ("high", .int F.high)]
theorem f_left (F : Frm) : (fldF F).lookup ("left" : Str) = some (V.str (rowS F.l)) := by rfl
theorem f_low (F : Frm) : (fldF F).lookup ("low" : Str) = some (V.int F.low) := by rfl
theorem f_middle (F : Frm) : (fldF F).lookup ("middle" : Str) = some (V.str (rowS F.m)) := by rfl
theorem f_right (F : Frm) : (fldF F).lookup ("right" : Str) = some (V.str (rowS F.r)) := by rfl
theorem f_high (F : Frm) : (fldF F).lookup ("high" : Str) = some (V.int F.high) := by rfl
/-- the object p is the set of the days n with f n -/
def IsDay (C : Addr) (H : Hp) (p : Addr) (f : Int → Bool) : Prop := ∃ F dx, Least F ∧ Sz F ∧ (∀ n, F.mem n = f n) ∧ H p = some (.ins C dx (fldF F))
theorem IsDay.le {C : Addr} {H H' : Hp} {p : Addr} {f : Int → Bool} (d : IsDay C H p f) (l : Le H H') : IsDay C H' p f := by
  obtain ⟨F, dx, L, z, m, e⟩ := d
  exact ⟨F, dx, L, z, m, l p _ e⟩
theorem IsDay.lx {C : Addr} {H H' : Hp} {D p : Addr} {f : Int → Bool} (d : IsDay C H p f) (l : LeX D H H') (hD : ∃ acc, H D = some (.lst acc)) : IsDay C H' p f := by
  obtain ⟨F, dx, L, z, m, e⟩ := d
  refine ⟨F, dx, L, z, m, l p _ (fun c => ?_) e⟩
  subst c
  obtain ⟨acc, e2⟩ := hD
  rw [e] at e2
  cases e2
theorem IsDay.to {C : Addr} {H : Hp} {p : Addr} {f g : Int → Bool} (d : IsDay C H p f) (h : ∀ n, f n = g n) : IsDay C H p g := by
  obtain ⟨F, dx, L, z, m, e⟩ := d
  exact ⟨F, dx, L, z, fun n => (m n).trans (h n), e⟩
abbrev s_DaySet___init__ : Stmt := inClass (top 18) 0
abbrev N_DaySet___init__ : List Str := ["self", "left", "low", "middle", "right"]
abbrev P_DaySet___init__ : List Str := ["self", "left", "low", "middle", "right"]
theorem sc_DaySet___init__ : FnScope N_DaySet___init__ P_DaySet___init__ (C8.fnScope s_DaySet___init__) := fnScope_by (by decide +kernel)
abbrev s_DaySet_sign : Stmt := inClass (top 18) 8
abbrev N_DaySet_sign : List Str := ["self", "n"]
abbrev P_DaySet_sign : List Str := ["self", "n"]
theorem sc_DaySet_sign : FnScope N_DaySet_sign P_DaySet_sign (C8.fnScope s_DaySet_sign) := fnScope_by (by decide +kernel)
section
variable {P : Program} {w : World} {K : PySem.W.Frag} {mg : Str → Option Value} {base : Heap}
/-! ### __init__ -/
def sp_init (C : Addr) : Sp := fun vs H Q _ => ∃ (x dx : Addr) (l : List Bool) (low : Int) (m r : List Bool), vs = [.ref x, .str (rowS l), .int low, .str (rowS m), .str (rowS r)] ∧ H x = some (.ins C dx []) ∧ l ≠ [] ∧ r ≠ [] ∧ l.length ≤ 4194304 ∧ m.length ≤ 4194304 ∧ r.length ≤ 4194304 ∧
  ∀ F, Least F → (∀ n, F.mem n = (Frm.mk l low m r).mem n) → Sz F → ∀ H', LeX x H H' → H' x = some (.ins C dx (fldF F)) → Q .non H'
theorem k_init {C : Addr} (T : Txt K mg) (D : DSC K mg C) (M : MakOf K C "DaySet.__init__" s_DaySet___init__ P_DaySet___init__) (C_least_form : Cal P w K mg base 3 "least_form" sp_least_form []) : Mak P w K mg base 4 "DaySet" C (sp_init C) [] := by
  obtain ⟨f, fd, M, F, B⟩ := M
  refine mak0 M D.c F B .nil sc_DaySet___init__ (fun vs H Q E h => by obtain ⟨_, _, _, _, _, _, rfl, _⟩ := h; rfl) (fun cdv A outer s H vs Q E hr h => ?_)
  obtain ⟨x, dx, l, low, m, r, rfl, hx, l0, r0, ll, lm, lr, q⟩ := h
  have nd := sc_DaySet___init__.nd
  refine ⟨_, (pss_cons (ps_asg (pe_c C_least_form hr (by decide) rfl (pa_cons (pv 1) (pa_cons (pv 2) (pa_cons (pv 3) (pa_cons (pv 4) pa_nil))))) (pg_tup rfl (pgs_cons (pg_fld (pv 0)) (pgs_cons (pg_fld (pv 0)) (pgs_cons (pg_fld (pv 0)) (pgs_cons (pg_fld (pv 0)) pgs_nil))))))
      (pss_one (ps_fld (pv 0) (pe_op op_add (pe_fld (pv 0) rfl) (pe_callB call_len_str (by rfl) T.b_len (by decide +kernel) (pa_cons (pe_fld (pv 0) rfl) pa_nil))) rfl))), ?_⟩
  refine ⟨_, rfl, _, rfl, _, rfl, _, rfl, l, low, m, r, rfl, l0, r0, ll, lm, lr, fun F hF hm hz p H' le e => ?_⟩
  have hx' := le x _ hx
  refine ⟨p, _, rfl, .of e, rfl, ?_⟩
  refine ⟨_, _, rfl, _, rfl, _, _, _, _, rfl, hx', D.cl, D.n_left, by decide, ?_⟩
  refine ⟨_, _, rfl, _, rfl, _, _, _, _, rfl, upd_self, D.cl, D.n_low, lt_put (by decide), ?_⟩
  refine ⟨_, _, rfl, _, rfl, _, _, _, _, rfl, upd_self, D.cl, D.n_middle, lt_put (lt_put (by decide)), ?_⟩
  refine ⟨_, _, rfl, _, rfl, _, _, _, _, rfl, upd_self, D.cl, D.n_right, lt_put (lt_put (lt_put (by decide))), ?_⟩
  refine ⟨rfl, ?_⟩
  refine ⟨_, rfl, _, _, _, _, _, rfl, upd_self, D.cl, D.n_low, by rfl, _, rfl, _, _, _, _, _, rfl, upd_self, D.cl, D.n_middle, by rfl, _, rfl, szl hz.m, _, _, rfl, rfl, _, rfl, _, _, _, _, rfl, upd_self, D.cl, D.n_high, lt_put (lt_put (lt_put (lt_put (by decide)))), ?_⟩
  refine q F hF hm hz _ ?_ ?_
  · exact le.x.upd.upd.upd.upd.upd
  · rw [upd_self]
    simp only [rowS_len]
    rfl
/-- a new set, told by a function -/
theorem make_day {C : Addr} {H : Hp} {Q : VK} {E : XK} (l : List Bool) (low : Int) (m r : List Bool) (f : Int → Bool) (l0 : l ≠ []) (r0 : r ≠ []) (ll : l.length ≤ 4194304) (lm : m.length ≤ 4194304) (lr : r.length ≤ 4194304)
    (hm : ∀ n, (Frm.mk l low m r).mem n = f n) (q : ∀ p H', Le H H' → IsDay C H' p f → H p = none → Q (.ref p) H') :
    ∀ x dx, H x = none → H dx = none → dx ≠ x → sp_init C (.ref x :: ([.str (rowS l), .int low, .str (rowS m), .str (rowS r)] ++ [])) (upd (upd H dx (.own x)) x (.ins C dx [])) (fun v H2 => v = .non ∧ Q (.ref x) H2) E := by
  intro x dx hx hdx ne
  refine ⟨x, dx, l, low, m, r, rfl, upd_self, l0, r0, ll, lm, lr, fun F hF hmm hz H' lx e => ⟨rfl, q x H' (fun a o ha => ?_) ⟨F, dx, hF, hz, fun n => (hmm n).trans (hm n), e⟩ hx⟩⟩
  have c1 : a ≠ x := fun c => by subst c; rw [hx] at ha; cases ha
  have c2 : a ≠ dx := fun c => by subst c; rw [hdx] at ha; cases ha
  exact lx a o c1 (by rw [upd_ne c1, upd_ne c2]; exact ha)
theorem one_len {c : Nat} : (⟨#[c]⟩ : Str).length ≤ 640 := by show 1 ≤ 640; decide
/-! ### sign -/
def sp_sign (C : Addr) : Sp := fun vs H Q _ => ∃ (p : Addr) (n : Int) (f : Int → Bool), vs = [.ref p, .int n] ∧ IsDay C H p f ∧ Q (.int (bi (f n))) H
theorem q_sign {C : Addr} (T : Txt K mg) (D : DSC K mg C) (M : MetOf K C "sign" "DaySet.sign" s_DaySet_sign P_DaySet_sign) : Met P w K mg base 1 C "sign" (sp_sign C) [] := by
  obtain ⟨g, fd, M, F, B⟩ := M
  refine met0 D.cl M F B sc_DaySet_sign (fun vs H Q E h => by obtain ⟨_, _, _, rfl, _⟩ := h; rfl) (fun cdv A outer s H vs Q E hr h => ?_)
  obtain ⟨p, n, f, rfl, ⟨F, dx, L, z, hm, hp⟩, q⟩ := h
  have nd := sc_DaySet_sign.nd
  refine ⟨_, (pss_cons (ps_if (pt_cmpR op_ge (pv 1) (pe_fld (pv 0) rfl) (nomark _)) (pss_one (ps_ret (pe_callTy call_int_str (by rfl) T.b_int (by decide +kernel) (pa_cons (pe_ix ix_str (pe_fld (pv 0) rfl) (pe_op op_mod (pe_op op_sub (pv 1) (pe_fld (pv 0) rfl)) (pe_callB call_len_str (by rfl) T.b_len (by decide +kernel) (pa_cons (pe_fld (pv 0) rfl) pa_nil))) (fun _ _ => rfl)) pa_nil)))) pss_nil)
      (pss_cons (ps_if (pt_cmpR op_lt (pv 1) (pe_fld (pv 0) rfl) (nomark _)) (pss_one (ps_ret (pe_callTy call_int_str (by rfl) T.b_int (by decide +kernel) (pa_cons (pe_ix ix_str (pe_fld (pv 0) rfl) (pe_op op_mod (pe_op op_sub (pv 1) (pe_fld (pv 0) rfl)) (pe_callB call_len_str (by rfl) T.b_len (by decide +kernel) (pa_cons (pe_fld (pv 0) rfl) pa_nil))) (fun _ _ => rfl)) pa_nil)))) pss_nil)
      (pss_one (ps_ret (pe_callTy call_int_str (by rfl) T.b_int (by decide +kernel) (pa_cons (pe_ix ix_str (pe_fld (pv 0) rfl) (pe_op op_sub (pv 1) (pe_fld (pv 0) rfl)) (fun _ _ => rfl)) pa_nil)))))), ?_⟩
  rw [← hm] at q
  refine ⟨_, rfl, _, rfl, _, _, _, _, _, rfl, hp, D.cl, D.n_high, f_high F, _, _, rfl, rfl, _, rfl, ?_⟩
  refine ite2 (fun c => ?_) (fun c => ?_)
  · have c1 : F.high ≤ n := of_decide_eq_true c
    refine ⟨_, rfl, _, _, _, _, _, rfl, hp, D.cl, D.n_right, f_right F, _, rfl, _, rfl, _, _, _, _, _, rfl, hp, D.cl, D.n_high, f_high F, _, _, rfl, rfl, _, rfl, _, _, _, _, _, rfl, hp, D.cl, D.n_right, f_right F, _, rfl, szl z.r, _, _, rfl, rfl, posl L.r0, _, _, _, rfl, rfl, szl z.r, by rw [rowS_len]; exact rowS_cyc L.r0 _, _, _, rfl, int_sgn _, one_len, ?_⟩
    rw [F.mem_up c1] at q
    exact q
  have c1 : n < F.high := by
    have : ¬ F.high ≤ n := fun h => c (decide_eq_true h)
    omega
  refine ⟨_, rfl, _, rfl, _, _, _, _, _, rfl, hp, D.cl, D.n_low, f_low F, _, _, rfl, rfl, _, rfl, ?_⟩
  refine ite2 (fun c2 => ?_) (fun c2 => ?_)
  · have c3 : n < F.low := of_decide_eq_true c2
    refine ⟨_, rfl, _, _, _, _, _, rfl, hp, D.cl, D.n_left, f_left F, _, rfl, _, rfl, _, _, _, _, _, rfl, hp, D.cl, D.n_low, f_low F, _, _, rfl, rfl, _, rfl, _, _, _, _, _, rfl, hp, D.cl, D.n_left, f_left F, _, rfl, szl z.l, _, _, rfl, rfl, posl L.l0, _, _, _, rfl, rfl, szl z.l, by rw [rowS_len]; exact rowS_cyc L.l0 _, _, _, rfl, int_sgn _, one_len, ?_⟩
    rw [F.mem_dn c3] at q
    exact q
  have c3 : F.low ≤ n := by
    have : ¬ n < F.low := fun h => c2 (decide_eq_true h)
    omega
  have e : n - F.low = ((n - F.low).toNat : Int) := by omega
  have hl : (n - F.low).toNat < F.m.length := by unfold Frm.high at c1; omega
  refine ⟨_, rfl, _, _, _, _, _, rfl, hp, D.cl, D.n_middle, f_middle F, _, rfl, _, rfl, _, _, _, _, _, rfl, hp, D.cl, D.n_low, f_low F, _, _, rfl, rfl, _, _, _, rfl, rfl, szl z.m, by rw [e]; exact rowS_at hl, _, _, rfl, int_sgn _, one_len, ?_⟩
  rw [F.mem_mid c3 c1] at q
  exact q
end
end Od
end
section
set_option Elab.async false
set_option linter.all false
set_option maxRecDepth 100000
set_option autoImplicit false
/-! functions of days that come again from some day on -/
namespace Od
open Day
theorem _root_.Day.Up.mulN {f : Int → Bool} {p b : Int} (h0 : 0 < p) (h : Up f p b) (k : Nat) : Up f ((k : Int) * p) b := fun n hn => h.nat h0 k n hn
theorem _root_.Day.Dn.mulN {f : Int → Bool} {p b : Int} (h0 : 0 < p) (h : Dn f p b) (k : Nat) : Dn f ((k : Int) * p) b := fun n hn => h.nat h0 k n hn
/-- sizes within which the sets are worked on -/
structure Ok (f : Int → Bool) (c b : Int) : Prop where
  c0 : 0 < c
  c1 : c ≤ 200000
  b0 : 0 ≤ b
  b1 : b ≤ 1000000
  fit : Fit f c b
theorem Ok.neg {f : Int → Bool} {c b : Int} (o : Ok f c b) (hb : b + 1 ≤ 1000000) : Ok (fun n => f (-n)) c (b + 1) := by
  have b0 := o.b0
  refine ⟨o.c0, o.c1, by omega, hb, fun n hn => ?_, fun n hn => ?_⟩
  · show f (-(n + c)) = f (-n)
    rw [show -(n + c) = -n - c by omega]
    exact o.fit.2 (-n) (by omega)
  · show f (-(n - c)) = f (-n)
    rw [show -(n - c) = -n + c by omega]
    exact o.fit.1 (-n) (by omega)
theorem Ok.not {f : Int → Bool} {c b : Int} (o : Ok f c b) : Ok (fun n => !f n) c b :=
  ⟨o.c0, o.c1, o.b0, o.b1, fun n hn => by show (!f (n + c)) = !f n; rw [o.fit.1 n hn], fun n hn => by show (!f (n - c)) = !f n; rw [o.fit.2 n hn]⟩
theorem Ok.bin {f g : Int → Bool} {c b : Int} (o1 : Ok f c b) (o2 : Ok g c b) (t : Bool → Bool → Bool) : Ok (fun n => t (f n) (g n)) c b :=
  ⟨o1.c0, o1.c1, o1.b0, o1.b1, fun n hn => by show t (f (n + c)) (g (n + c)) = _; rw [o1.fit.1 n hn, o2.fit.1 n hn], fun n hn => by show t (f (n - c)) (g (n - c)) = _; rw [o1.fit.2 n hn, o2.fit.2 n hn]⟩
theorem Ok.mono {f : Int → Bool} {c b b' : Int} (o : Ok f c b) (h : b ≤ b') (h' : b' ≤ 1000000) : Ok f c b' :=
  ⟨o.c0, o.c1, by have := o.b0; omega, h', o.fit.1.mono h, o.fit.2.mono (by omega)⟩
theorem Ok.to {f g : Int → Bool} {c b : Int} (o : Ok f c b) (h : ∀ n, f n = g n) : Ok g c b := by
  have : f = g := funext h
  subst this
  exact o
/-- a period several times -/
theorem Ok.times {f : Int → Bool} {c b : Int} (o : Ok f c b) (k : Nat) (hk : 0 < k) (h : (k : Int) * c ≤ 200000) : Ok f (k * c) b :=
  ⟨by have := o.c0; exact Int.mul_pos (by omega) this, h, o.b0, o.b1, o.fit.1.mulN o.c0 k, o.fit.2.mulN o.c0 k⟩
theorem Ok.neg' {f : Int → Bool} {c b b' : Int} (o : Ok f c b) (h : b + 1 ≤ b') (h' : b' ≤ 1000000) : Ok (fun n => f (-n)) c b' := (o.neg (by omega)).mono h h'
theorem Ok.mv {f : Int → Bool} {c b b' k : Int} (o : Ok f c b) (h : b + k ≤ b') (h2 : b - k ≤ b') (h' : b' ≤ 1000000) : Ok (fun n => f (n - k)) c b' := by
  have b0 := o.b0
  refine ⟨o.c0, o.c1, by omega, h', fun n hn => ?_, fun n hn => ?_⟩
  · show f (n + c - k) = f (n - k)
    rw [show n + c - k = n - k + c by omega]
    exact o.fit.1 _ (by omega)
  · show f (n - c - k) = f (n - k)
    rw [show n - c - k = n - k - c by omega]
    exact o.fit.2 _ (by omega)
theorem Ok.kst {t : Bool} {c b : Int} (c0 : 0 < c) (c1 : c ≤ 200000) (b0 : 0 ≤ b) (b1 : b ≤ 1000000) : Ok (fun _ => t) c b := ⟨c0, c1, b0, b1, fun _ _ => rfl, fun _ _ => rfl⟩
def zeroF : Int → Bool := fun n => decide (n ∈ [(0 : Int)])
theorem zeroF_iff {n : Int} : zeroF n = true ↔ n = 0 := by unfold zeroF; simp
theorem Ok.zero {c b : Int} (c0 : 0 < c) (c1 : c ≤ 200000) (b0 : 1 ≤ b) (b1 : b ≤ 1000000) : Ok zeroF c b := by
  have key : ∀ n : Int, n ≠ 0 → zeroF n = false := fun n hn => by
    cases h : zeroF n with
    | false => rfl
    | true => exact absurd (zeroF_iff.mp h) hn
  exact ⟨c0, c1, by omega, b1, fun n hn => by rw [key n (by omega), key _ (by omega)], fun n hn => by rw [key n (by omega), key _ (by omega)]⟩
theorem Ok.per {f : Int → Bool} {c b : Int} (o : Ok f c b) (k : Int) (hk : 0 < k) (h : k * c ≤ 200000) : Ok f (k * c) b := by
  have := o.times k.toNat (by omega)
  rw [show (k.toNat : Int) = k by omega] at this
  exact this h
def inF (ds : List Int) : Int → Bool := fun n => decide (n ∈ ds)
theorem inF_iff {ds : List Int} {n : Int} : inF ds n = true ↔ n ∈ ds := decide_eq_true_iff
theorem Ok.inF {ds : List Int} {S : Int} (h : ∀ d ∈ ds, -S ≤ d ∧ d ≤ S) (S0 : 0 ≤ S) (S1 : S ≤ 1000) : Ok (inF ds) 1 (S + 1) := by
  have key : ∀ n : Int, (S < n ∨ n < -S) → Od.inF ds n = false := fun n hn => by
    cases e : Od.inF ds n with
    | false => rfl
    | true => have := h n (inF_iff.mp e); omega
  exact ⟨by decide, by decide, by omega, by omega, fun n hn => by rw [key n (by omega), key _ (by omega)], fun n hn => by rw [key n (by omega), key _ (by omega)]⟩
theorem cyc_of {l : List Bool} {c : Nat} (l0 : l ≠ []) (h : c % l.length = 0) (z : Int) : cyc l (z + c) = cyc l z := by
  have h0 := prim_len l0
  obtain ⟨q, hq⟩ := Nat.dvd_of_mod_eq_zero h
  unfold cyc
  rw [show z + (c : Int) = z + (l.length : Int) * (q : Int) by rw [← Int.natCast_mul, ← hq], Int.add_mul_emod_self_left]
/-- a form's function -/
theorem Frm.okF {l : List Bool} {k : Int} {m r : List Bool} {c : Nat} {b : Int} (l0 : l ≠ []) (r0 : r ≠ []) (ll : c % l.length = 0) (lr : c % r.length = 0) (c0 : 0 < c) (c1 : c ≤ 200000) (b0 : 0 ≤ b) (b1 : b ≤ 1000000) (k0 : -b ≤ k) (k1 : k + m.length ≤ b) : Ok (Frm.mk l k m r).mem c b := by
  refine ⟨by omega, by omega, b0, b1, fun n hn => ?_, fun n hn => ?_⟩
  · have hh : (Frm.mk l k m r).high = k + m.length := rfl
    rw [Frm.mem_up _ (by rw [hh]; omega), Frm.mem_up _ (by rw [hh]; omega)]
    rw [show n + (c : Int) - (Frm.mk l k m r).high = n - (Frm.mk l k m r).high + c by omega]
    exact cyc_of r0 lr _
  · rw [Frm.mem_dn _ (by show n - (c : Int) < k; omega), Frm.mem_dn _ (by show n < k; omega)]
    have := cyc_of l0 ll (n - c - k)
    rw [show n - (c : Int) - k + c = n - k by omega] at this
    exact this.symm
theorem div12 {n : Nat} (h0 : 0 < n) (h : n ≤ 4) : 12 % n = 0 := by
  have : n = 1 ∨ n = 2 ∨ n = 3 ∨ n = 4 := by omega
  rcases this with rfl | rfl | rfl | rfl <;> decide
/-- h has just the sums of a day of f and one of g -/
def IsSum (f g h : Int → Bool) : Prop := ∀ n, h n = true ↔ ∃ a b, f a = true ∧ g b = true ∧ n = a + b
theorem Ok.sum {f g h : Int → Bool} {c b : Int} (o1 : Ok f c b) (o2 : Ok g c b) (s : IsSum f g h) (hb : 2 * b + c ≤ 1000000) : Ok h c (2 * b + c) := by
  have c0 := o1.c0
  have b0 := o1.b0
  refine ⟨c0, o1.c1, by omega, hb, fun n hn => ?_, fun n hn => ?_⟩
  · have f1 : ∀ x, b ≤ x → f (x + c) = f x := o1.fit.1
    have g1 : ∀ x, b ≤ x → g (x + c) = g x := o2.fit.1
    rw [Bool.eq_iff_iff, s, s]
    constructor
    · rintro ⟨x, y, hx, hy, e⟩
      by_cases h1 : b + c ≤ x
      · refine ⟨x - c, y, ?_, hy, by omega⟩
        rw [← f1 (x - c) (by omega), show x - c + c = x by omega]
        exact hx
      · refine ⟨x, y - c, hx, ?_, by omega⟩
        rw [← g1 (y - c) (by omega), show y - c + c = y by omega]
        exact hy
    · rintro ⟨x, y, hx, hy, e⟩
      by_cases h1 : b ≤ x
      · exact ⟨x + c, y, by rw [f1 x h1]; exact hx, hy, by omega⟩
      · exact ⟨x, y + c, hx, by rw [g1 y (by omega)]; exact hy, by omega⟩
  · have f1 : ∀ x, x < -b → f (x - c) = f x := o1.fit.2
    have g1 : ∀ x, x < -b → g (x - c) = g x := o2.fit.2
    rw [Bool.eq_iff_iff, s, s]
    constructor
    · rintro ⟨x, y, hx, hy, e⟩
      by_cases h1 : x < -b - c
      · refine ⟨x + c, y, ?_, hy, by omega⟩
        rw [← f1 (x + c) (by omega), show x + c - c = x by omega]
        exact hx
      · refine ⟨x, y + c, hx, ?_, by omega⟩
        rw [← g1 (y + c) (by omega), show y + c - c = y by omega]
        exact hy
    · rintro ⟨x, y, hx, hy, e⟩
      by_cases h1 : x < -b
      · exact ⟨x - c, y, by rw [f1 x h1]; exact hx, hy, by omega⟩
      · exact ⟨x, y - c, hx, by rw [g1 y (by omega)]; exact hy, by omega⟩
def IsInner (f g h : Int → Bool) : Prop := ∀ n, h n = true ↔ ∀ b, g b = true → f (n + b) = true
end Od
end
section
set_option Elab.async false
set_option linter.all false
set_option maxRecDepth 100000
set_option maxHeartbeats 2000000
set_option autoImplicit false
namespace Od
open PySem PySem.Spec PyProof.Rows L2 C8 Day
abbrev s_DaySet_days_in : Stmt := inClass (top 18) 9
abbrev N_DaySet_days_in : List Str := ["self", "start", "stop", "n"]
abbrev P_DaySet_days_in : List Str := ["self", "start", "stop"]
theorem sc_DaySet_days_in : FnScope N_DaySet_days_in P_DaySet_days_in (C8.fnScope s_DaySet_days_in) := fnScope_by (by decide +kernel)
abbrev s_DaySet_merged : Stmt := inClass (top 18) 10
abbrev N_DaySet_merged : List Str := ["self", "other", "table", "low", "high", "before", "behind", "row", "n"]
abbrev P_DaySet_merged : List Str := ["self", "other", "table"]
theorem sc_DaySet_merged : FnScope N_DaySet_merged P_DaySet_merged (C8.fnScope s_DaySet_merged) := fnScope_by (by decide +kernel)
/-- the days from a on, b not within, that f tells -/
def daysIn (f : Int → Bool) (a b : Int) : List Int := ((List.range (b - a).toNat).map fun i => a + (i : Nat)).filter f
theorem mem_daysIn {f : Int → Bool} {a b n : Int} : n ∈ daysIn f a b ↔ a ≤ n ∧ n < b ∧ f n = true := by
  unfold daysIn
  rw [List.mem_filter, List.mem_map]
  constructor
  · rintro ⟨⟨i, hi, rfl⟩, hf⟩
    have := List.mem_range.mp hi
    exact ⟨by omega, by omega, hf⟩
  · rintro ⟨h1, h2, hf⟩
    exact ⟨⟨(n - a).toNat, List.mem_range.mpr (by omega), by omega⟩, hf⟩
theorem daysIn_fm (f : Int → Bool) (a b : Int) : (List.range (b - a).toNat).filterMap (fun i => if f (a + (i : Nat)) then some (V.int (a + (i : Nat))) else none) = (daysIn f a b).map V.int := by
  unfold daysIn
  generalize (List.range (b - a).toNat) = l
  induction l with
  | nil => rfl
  | cons i l ih =>
    rw [List.filterMap_cons, List.map_cons, List.filter_cons]
    cases h : f (a + (i : Nat)) with
    | true => simp only [if_true, List.map_cons, ih]
    | false => simpa using ih
theorem bi_dec (b : Bool) : decide (V.int (bi b) = V.int 1) = b := by cases b <;> decide
section
variable {P : Program} {w : World} {K : PySem.W.Frag} {mg : Str → Option Value} {base : Heap}
def sp_days_in (C : Addr) : Sp := fun vs H Q _ => ∃ (p : Addr) (a b : Int) (f : Int → Bool), vs = [.ref p, .int a, .int b] ∧ IsDay C H p f ∧ (-(2 ^ 62) ≤ a ∧ a < 2 ^ 62 ∧ -(2 ^ 62) ≤ b ∧ b < 2 ^ 62) ∧ b - a ≤ 16777216 ∧
  ∀ q H', Le H H' → H q = none → H' q = some (.lst ((daysIn f a b).map V.int)) → Q (.ref q) H'
theorem q_days_in {C : Addr} (T : Txt K mg) (D : DSC K mg C) (M : MetOf K C "days_in" "DaySet.days_in" s_DaySet_days_in P_DaySet_days_in) (Q_DaySet_sign : Met P w K mg base 1 C "sign" (sp_sign C) []) : Met P w K mg base 2 C "days_in" (sp_days_in C) [] := by
  obtain ⟨g, fd, M, F, B⟩ := M
  refine met0 D.cl M F B sc_DaySet_days_in (fun vs H Q E h => by obtain ⟨_, _, _, _, rfl, _⟩ := h; rfl) (fun cdv A outer s H vs Q E hr h => ?_)
  obtain ⟨p, a, b, f, rfl, hp, hb, hn, q⟩ := h
  have nd := sc_DaySet_days_in.nd
  refine ⟨_, (pss_one (ps_ret (pe_lc (own := [("n", 3)]) (g := gName 3) (by rfl) nd (pi_range2 (by rfl) T.b_range (pa_cons (pv 1) (pa_cons (pv 2) pa_nil))) (blkOk_by (own := [("n", 3)]) (N := N_DaySet_days_in) (sc := C8.fnScope s_DaySet_days_in) (by decide +kernel)) (fun _ _ _ _ _ => pg_name (i := 3) nd rfl (Or.inl rfl)) (fun _ _ _ _ _ => pts_one (pt_cmpR op_eq (pe_mt Q_DaySet_sign hr (by decide) (pv 0) (pa_cons (pv 3) pa_nil)) pe_int (nomark _))) (fun _ _ _ _ _ => (pv 3))))), ?_⟩
  refine ⟨_, rfl, _, rfl, _, _, rfl, hb, fun d hd => ?_⟩
  refine lc_pure walk_range hd (by have : sizeLine = 16777216 := sizeLine_eq; omega) (fun _ _ => trivial) yfn_le (fun i => if f (a + (i : Nat)) then some (V.int (a + (i : Nat))) else none) ?_ ?_
  · rintro i x H1 H2 hi le ⟨rfl, rfl⟩ N hN
    refine ⟨rfl, ?_⟩
    obtain ⟨F, dx, L, z, hm, hp'⟩ := hp.le le
    refine ⟨_, rfl, _, _, _, rfl, hp', by rfl, _, rfl, p, _, f, rfl, ⟨F, dx, L, z, hm, hp'⟩, rfl, _, rfl, ?_⟩
    rw [bi_dec]
    have := hN _ Le.refl
    cases hf : f (a + (i : Nat)) with
    | true => rw [hf] at this; exact ⟨_, rfl, this⟩
    | false => rw [hf] at this; exact this
  · intro H1 le e
    rw [daysIn_fm] at e
    exact q d H1 le hd e
/-! ### merged -/
def tabS (t : Bool → Bool → Bool) : List Bool := [t false false, t false true, t true false, t true true]
theorem tab_at (t : Bool → Bool → Bool) (a b : Bool) : atI (rowS (tabS t)).cps.toList (2 * bi a + bi b) = some (sg (t a b)) := by
  have h : (2 * bi a + bi b) = (((if a then 2 else 0) + (if b then 1 else 0) : Nat) : Int) := by cases a <;> cases b <;> rfl
  rw [h, rowS_at (l := tabS t) (by cases a <;> cases b <;> (simp [tabS]))]
  cases a <;> cases b <;> rfl
theorem sum_one : ∀ l : List Bool, (l.map fun _ => 1).sum = l.length
  | [] => rfl
  | _ :: l => by rw [List.map_cons, List.sum_cons, sum_one l, List.length_cons, Nat.add_comm]
theorem join_signs (l : List Bool) : Txt.join ("" : Str) (l.map fun b => (⟨#[sg b]⟩ : Str)) = rowS l := by
  have h := SX.join_S [] (l.map fun b => [sg b])
  rw [List.map_map] at h
  have e : (l.map (SX.S ∘ fun b => [sg b])) = l.map fun b => (⟨#[sg b]⟩ : Str) := List.map_congr_left fun _ _ => rfl
  rw [e] at h
  have e2 : (SX.S [] : Str) = ("" : Str) := by decide +kernel
  rw [e2] at h
  rw [h]
  unfold rowS
  congr 1
  clear h e
  induction l with
  | nil => rfl
  | cons a l ih =>
    cases l with
    | nil => rfl
    | cons b l =>
      show [sg a] ++ ([] ++ TL.joinL [] ((b :: l).map fun b => [sg b])) = _
      rw [ih]
      rfl
theorem up_lcm {F G : Frm} (LF : Least F) (LG : Least G) (t : Bool → Bool → Bool) {hi : Int} (h1 : F.high ≤ hi) (h2 : G.high ≤ hi) : Up (fun n => t (F.mem n) (G.mem n)) ((Nat.lcm F.r.length G.r.length : Nat) : Int) hi := by
  intro n hn
  obtain ⟨k, hk⟩ := Nat.dvd_lcm_left F.r.length G.r.length
  obtain ⟨j, hj⟩ := Nat.dvd_lcm_right F.r.length G.r.length
  have a1 := (LF.up_high.mulN (by have := prim_len LF.r0; omega) k) n (by omega)
  have a2 := (LG.up_high.mulN (by have := prim_len LG.r0; omega) j) n (by omega)
  have e1 : ((Nat.lcm F.r.length G.r.length : Nat) : Int) = (k : Int) * F.r.length := by rw [hk]; simp [Int.mul_comm]
  have e2 : ((Nat.lcm F.r.length G.r.length : Nat) : Int) = (j : Int) * G.r.length := by rw [hj]; simp [Int.mul_comm]
  show t (F.mem (n + _)) (G.mem (n + _)) = t (F.mem n) (G.mem n)
  rw [← a1, ← a2, ← e1, ← e2]
theorem dn_lcm {F G : Frm} (LF : Least F) (LG : Least G) (t : Bool → Bool → Bool) {lo : Int} (h1 : lo ≤ F.low) (h2 : lo ≤ G.low) : Dn (fun n => t (F.mem n) (G.mem n)) ((Nat.lcm F.l.length G.l.length : Nat) : Int) lo := by
  intro n hn
  obtain ⟨k, hk⟩ := Nat.dvd_lcm_left F.l.length G.l.length
  obtain ⟨j, hj⟩ := Nat.dvd_lcm_right F.l.length G.l.length
  have a1 := (LF.dn_low.mulN (by have := prim_len LF.l0; omega) k) n (by omega)
  have a2 := (LG.dn_low.mulN (by have := prim_len LG.l0; omega) j) n (by omega)
  have e1 : ((Nat.lcm F.l.length G.l.length : Nat) : Int) = (k : Int) * F.l.length := by rw [hk]; simp [Int.mul_comm]
  have e2 : ((Nat.lcm F.l.length G.l.length : Nat) : Int) = (j : Int) * G.l.length := by rw [hj]; simp [Int.mul_comm]
  show t (F.mem (n - _)) (G.mem (n - _)) = t (F.mem n) (G.mem n)
  rw [← a1, ← a2, ← e1, ← e2]
theorem lcm_le {a b : Nat} {p : Int} (hp : 0 < p) (h1 : p % (a : Int) = 0) (h2 : p % (b : Int) = 0) : ((Nat.lcm a b : Nat) : Int) ≤ p := by
  have d1 : (a : Int) ∣ p := Int.dvd_of_emod_eq_zero h1
  have d2 : (b : Int) ∣ p := Int.dvd_of_emod_eq_zero h2
  have : Nat.lcm a b ∣ p.toNat := Nat.lcm_dvd (by have := Int.natAbs_dvd_natAbs.mpr d1; rw [Int.natAbs_natCast] at this; rwa [show p.natAbs = p.toNat by omega] at this) (by have := Int.natAbs_dvd_natAbs.mpr d2; rw [Int.natAbs_natCast] at this; rwa [show p.natAbs = p.toNat by omega] at this)
  have := Nat.le_of_dvd (by omega) this
  omega
def sp_merged (C : Addr) : Sp := fun vs H Q _ => ∃ (p q : Addr) (t : Bool → Bool → Bool) (f g : Int → Bool) (c b : Int), vs = [.ref p, .ref q, .str (rowS (tabS t))] ∧ IsDay C H p f ∧ IsDay C H q g ∧ 0 < c ∧ c ≤ 200000 ∧ 0 ≤ b ∧ b ≤ 1000000 ∧ Fit f c b ∧ Fit g c b ∧
  ∀ r H', Le H H' → IsDay C H' r (fun n => t (f n) (g n)) → H r = none → Q (.ref r) H'
theorem q_merged {C : Addr} (T : Txt K mg) (D : DSC K mg C) (M : MetOf K C "merged" "DaySet.merged" s_DaySet_merged P_DaySet_merged) (Q_DaySet_sign : Met P w K mg base 1 C "sign" (sp_sign C) []) (C_multiple_of : Cal P w K mg base 2 "multiple_of" sp_multiple_of []) (M_DaySet : Mak P w K mg base 4 "DaySet" C (sp_init C) []) :
    Met P w K mg base 6 C "merged" (sp_merged C) [] := by
  obtain ⟨gg, fd, M, F, B⟩ := M
  refine met0 D.cl M F B sc_DaySet_merged (fun vs H Q E h => by obtain ⟨_, _, _, _, _, _, _, rfl, _⟩ := h; rfl) (fun cdv A outer s H vs Q E hr h => ?_)
  obtain ⟨p, q, t, f, g, c, b, rfl, hp, hq, c0, c1, b0, b1, ff, fg, qq⟩ := h
  have nd := sc_DaySet_merged.nd
  refine ⟨_, (pss_cons (ps_set (i := 3) nd rfl (Or.inl rfl) (pe_callB (call_min2 rfl) (by rfl) T.b_min (by decide +kernel) (pa_cons (pe_callTy call_int1 (by rfl) T.b_int (by decide +kernel) (pa_cons (pe_fld (pv 0) rfl) pa_nil)) (pa_cons (pe_callTy call_int1 (by rfl) T.b_int (by decide +kernel) (pa_cons (pe_fld (pv 1) rfl) pa_nil)) pa_nil))))
      (pss_cons (ps_set (i := 4) nd rfl (Or.inl rfl) (pe_callB (call_max2 rfl) (by rfl) T.b_max (by decide +kernel) (pa_cons (pe_callTy call_int1 (by rfl) T.b_int (by decide +kernel) (pa_cons (pe_fld (pv 0) rfl) pa_nil)) (pa_cons (pe_callTy call_int1 (by rfl) T.b_int (by decide +kernel) (pa_cons (pe_fld (pv 1) rfl) pa_nil)) pa_nil))))
      (pss_cons (ps_set (i := 5) nd rfl (Or.inl rfl) (pe_c C_multiple_of hr (by decide) rfl (pa_cons (pe_callB call_len_str (by rfl) T.b_len (by decide +kernel) (pa_cons (pe_fld (pv 0) rfl) pa_nil)) (pa_cons (pe_callB call_len_str (by rfl) T.b_len (by decide +kernel) (pa_cons (pe_fld (pv 1) rfl) pa_nil)) pa_nil))))
      (pss_cons (ps_set (i := 6) nd rfl (Or.inl rfl) (pe_c C_multiple_of hr (by decide) rfl (pa_cons (pe_callB call_len_str (by rfl) T.b_len (by decide +kernel) (pa_cons (pe_fld (pv 0) rfl) pa_nil)) (pa_cons (pe_callB call_len_str (by rfl) T.b_len (by decide +kernel) (pa_cons (pe_fld (pv 1) rfl) pa_nil)) pa_nil))))
      (pss_cons (ps_set (i := 7) nd rfl (Or.inl rfl) (pe_join pe_str (pe_lc (own := [("n", 8)]) (g := gName 8) (by rfl) nd (pi_range2 (by rfl) T.b_range (pa_cons (pe_op op_sub (pv 3) (pv 5)) (pa_cons (pe_op op_add (pv 4) (pv 6)) pa_nil))) (blkOk_by (own := [("n", 8)]) (N := N_DaySet_merged) (sc := C8.fnScope s_DaySet_merged) (by decide +kernel)) (fun _ _ _ _ _ => pg_name (i := 8) nd rfl (Or.inl rfl)) (fun _ _ _ _ _ => pts_nil) (fun _ _ _ _ _ => (pe_ix ix_str (pv 2) (pe_op op_add (pe_op op_mul pe_int (pe_mt Q_DaySet_sign hr (by decide) (pv 0) (pa_cons (pv 8) pa_nil))) (pe_mt Q_DaySet_sign hr (by decide) (pv 1) (pa_cons (pv 8) pa_nil))) (fun _ _ => rfl))))))
      (pss_one (ps_ret (pe_mk M_DaySet hr (by decide) rfl (pa_cons (pe_slice sl_str (pv 7) po_none (po_some (pv 5))) (pa_cons (pv 3) (pa_cons (pe_slice sl_str (pv 7) (po_some (pv 5)) (po_some (pe_op op_sub (pe_callB call_len_str (by rfl) T.b_len (by decide +kernel) (pa_cons (pv 7) pa_nil)) (pv 6)))) (pa_cons (pe_slice sl_str (pv 7) (po_some (pe_op op_sub (pe_callB call_len_str (by rfl) T.b_len (by decide +kernel) (pa_cons (pv 7) pa_nil)) (pv 6))) po_none) pa_nil)))))))))))), ?_⟩
  obtain ⟨F, dx, L, z, hm, hp1⟩ := id hp
  obtain ⟨G, dy, LG, zG, hmG, hq1⟩ := id hq
  have ef : F.mem = f := funext hm
  have eg : G.mem = g := funext hmG
  subst ef
  subst eg
  obtain ⟨fl, fr, fpl, fpr, fh, flo⟩ := ff.form L c0 b0
  obtain ⟨gl, gr, gpl, gpr, gh, glo⟩ := fg.form LG c0 b0
  refine ⟨_, rfl, _, _, _, _, _, rfl, hp1, D.cl, D.n_low, f_low F, .inl ⟨_, rfl, ?_⟩⟩
  refine ⟨_, rfl, _, _, _, _, _, rfl, hq1, D.cl, D.n_low, f_low G, .inl ⟨_, rfl, ?_⟩⟩
  refine ⟨_, _, rfl, ?_⟩
  refine ⟨_, rfl, _, _, _, _, _, rfl, hp1, D.cl, D.n_high, f_high F, .inl ⟨_, rfl, ?_⟩⟩
  refine ⟨_, rfl, _, _, _, _, _, rfl, hq1, D.cl, D.n_high, f_high G, .inl ⟨_, rfl, ?_⟩⟩
  refine ⟨_, _, rfl, ?_⟩
  have hlo : ∃ lo, (if G.low < F.low then G.low else F.low) = lo ∧ lo ≤ F.low ∧ lo ≤ G.low ∧ -b - 2 * c ≤ lo := ⟨_, rfl, by split <;> omega, by split <;> omega, by split <;> omega⟩
  have hhi : ∃ hi, (if G.high > F.high then G.high else F.high) = hi ∧ F.high ≤ hi ∧ G.high ≤ hi ∧ hi ≤ b := ⟨_, rfl, by split <;> omega, by split <;> omega, by split <;> omega⟩
  obtain ⟨lo, elo, lo1, lo2, lo3⟩ := hlo
  obtain ⟨hi, ehi, hi1, hi2, hi3⟩ := hhi
  rw [elo, ehi]
  have lFl := prim_len L.l0
  have lFr := prim_len L.r0
  have lGl := prim_len LG.l0
  have lGr := prim_len LG.r0
  refine ⟨_, rfl, _, _, _, _, _, rfl, hp1, D.cl, D.n_left, f_left F, _, rfl, szl z.l, _, rfl, _, _, _, _, _, rfl, hq1, D.cl, D.n_left, f_left G, _, rfl, szl zG.l, ?_⟩
  rw [rowS_len, rowS_len]
  refine ⟨F.l.length, G.l.length, rfl, lFl, lGl, by have := z.l; omega, by have := zG.l; omega, ?_⟩
  refine ⟨_, rfl, _, _, _, _, _, rfl, hp1, D.cl, D.n_right, f_right F, _, rfl, szl z.r, _, rfl, _, _, _, _, _, rfl, hq1, D.cl, D.n_right, f_right G, _, rfl, szl zG.r, ?_⟩
  rw [rowS_len, rowS_len]
  refine ⟨F.r.length, G.r.length, rfl, lFr, lGr, by have := z.r; omega, by have := zG.r; omega, ?_⟩
  have hu := up_lcm L LG t hi1 hi2
  have hd := dn_lcm L LG t lo1 lo2
  have la := lcm_le c0 fpl gpl
  have lb := lcm_le c0 fpr gpr
  have a0 : 0 < Nat.lcm F.l.length G.l.length := Nat.lcm_pos lFl lGl
  have b0' : 0 < Nat.lcm F.r.length G.r.length := Nat.lcm_pos lFr lGr
  generalize Nat.lcm F.l.length G.l.length = be at *
  generalize Nat.lcm F.r.length G.r.length = bh at *
  have hlh : lo ≤ hi := Int.le_trans lo1 (Int.le_trans F.low_high hi1)
  have hN : ((hi + (bh : Int)) - (lo - (be : Int))).toNat = be + (hi - lo).toNat + bh := by omega
  refine ⟨⟨_, rfl⟩, _, rfl, _, rfl, _, _, rfl, rfl, _, rfl, _, rfl, _, _, rfl, rfl, _, _, rfl, ?_, fun d hd0 => ?_⟩
  · exact ⟨by omega, by omega, by omega, by omega⟩
  rw [hN]
  refine lc_pure walk_range hd0 (le_szl _ (by omega)) (fun _ _ => trivial) yfn_le (fun i => some (V.str ⟨#[sg (t (F.mem (lo - be + (i : Nat))) (G.mem (lo - be + (i : Nat))))]⟩)) ?_ ?_
  · rintro i x H1 H2 hi le ⟨rfl, rfl⟩ N hN
    refine ⟨rfl, ?_⟩
    have hp2 := le p _ hp1
    have hq2 := le q _ hq1
    refine ⟨_, rfl, _, rfl, _, _, _, rfl, hp2, by rfl, _, rfl, p, _, _, rfl, hp.le le, ?_⟩
    refine ⟨_, _, rfl, rfl, .inl ⟨by decide, by decide⟩, _, rfl, _, _, _, rfl, hq2, by rfl, _, rfl, q, _, _, rfl, hq.le le, _, _, rfl, rfl, ?_⟩
    exact ⟨_, _, _, rfl, rfl, le_szl _ (by show 4 ≤ 16777216; decide), tab_at t _ _, hN _ Le.refl⟩
  intro H1 le e
  have er : ∃ R : List Bool, R = (List.range (be + (hi - lo).toNat + bh)).map (fun i => t (F.mem (lo - be + (i : Nat))) (G.mem (lo - be + (i : Nat)))) ∧ R.length = be + (hi - lo).toNat + bh ∧ ∀ i, i < R.length → R.getD i false = (fun n => t (F.mem n) (G.mem n)) (lo - be + (i : Nat)) := by
    refine ⟨_, rfl, by simp, fun i hi => ?_⟩
    rw [List.getD_eq_getElem?_getD, List.getElem?_map, List.getElem?_range (by simpa using hi)]
    rfl
  obtain ⟨R, eR, hR, hRi⟩ := er
  have e1 : H1 d = some (.lst ((R.map fun b => (⟨#[sg b]⟩ : Str)).map V.str)) := by
    rw [e, eR, List.map_map, List.map_map]
    congr 2
    rw [← List.filterMap_eq_map]
    rfl
  refine ⟨_, d, R.map fun b => (⟨#[sg b]⟩ : Str), rfl, rfl, .inl (.of e1), ?_, ?_⟩
  · have : ((R.map fun b => (⟨#[sg b]⟩ : Str)).map (·.length)).sum = R.length := by
      rw [List.map_map]
      have e3 : (R.map ((fun x : Str => x.length) ∘ fun b => (⟨#[sg b]⟩ : Str))) = R.map fun _ => 1 := List.map_congr_left fun _ _ => rfl
      rw [e3, sum_one]
    have e4 : (("" : Str)).length = 0 := by decide +kernel
    rw [this, e4, hR]
    omega
  rw [join_signs]
  have sR : (rowS R).length ≤ sizeLine := szl (by omega)
  have ej : (R.length : Int) - (bh : Int) = ((R.length - bh : Nat) : Int) := by omega
  refine ⟨_, rfl, _, rfl, _, rfl, _, rfl, sR, _, rfl, _, rfl, _, rfl, _, rfl, _, rfl, _, rfl, sR, _, rfl, _, _, rfl, rfl, _, rfl, _, rfl, sR, _, rfl, _, rfl, _, rfl, sR, _, rfl, _, _, rfl, rfl, _, rfl, _, rfl, sR, ?_⟩
  rw [rowS_len, ej, rowS_to R _ (by omega), rowS_mid R _ _ (by omega) (by omega), rowS_from R _ (by omega)]
  refine make_day _ lo _ _ (fun n => t (F.mem n) (G.mem n)) ?_ ?_ ?_ ?_ ?_ ?_ ?_
  · intro e0
    have := congrArg List.length e0
    rw [List.length_take, List.length_nil] at this
    omega
  · intro e0
    have := congrArg List.length e0
    rw [List.length_drop, List.length_nil] at this
    omega
  · rw [List.length_take]; omega
  · rw [List.length_take, List.length_drop]; omega
  · rw [List.length_drop]; omega
  · intro n
    have := form_of (f := fun n => t (F.mem n) (G.mem n)) (row := R) (low := lo) a0 b0' (by omega) hRi (by rw [hR, show lo + ((be + (hi - lo).toNat + bh - be - bh : Nat) : Int) = hi by omega]; exact hu) hd n
    rw [show R.length - bh - be = R.length - be - bh by omega]
    exact this
  · intro r H3 l3 hday hr0
    exact qq r H3 (le.trans l3) hday (le.none hr0)
end
end Od
end
section
set_option Elab.async false
set_option linter.all false
set_option maxRecDepth 100000
set_option maxHeartbeats 2000000
set_option autoImplicit false
namespace Od
open PySem PySem.Spec PyProof.Rows L2 C8 Day
theorem pe_not_own {X : Cx} {k j : Nat} {C : Addr} {sp : Sp} {ta : TE} {a : Expr} {pos : Pos} (c : C8.Met X.prog X.w X.K X.mg X.base k C "__bool__" sp []) (hr : Room j X.A) (hk : k ≤ j) (ha : PE X a ta) :
    PE X (.UnaryOp .Not a pos) (fun σ H Q => ta σ H fun x H1 => rTru C sp C8.E0 x H1 fun b H2 => Q (.bl (!b)) H2) := by
  refine ⟨fun pins s σ H Q I h => ?_⟩
  refine UnaryOp_ (thn (ha.run pins s σ H _ I h) fun v s1 ⟨x, H1, I1, r1, q1⟩ => ?_)
  exact not_of (thn (tru_ownM c hr hk pins s1 σ H1 x v (fun c H2 => Q (.bl (!c)) H2) I1 r1 q1) fun c s2 ⟨H2, I2, q2⟩ => ⟨.bl (!c), H2, I2, rfl, q2⟩)
abbrev s_DaySet___or__ : Stmt := inClass (top 18) 15
abbrev N_DaySet___or__ : List Str := ["self", "other"]
abbrev P_DaySet___or__ : List Str := ["self", "other"]
theorem sc_DaySet___or__ : FnScope N_DaySet___or__ P_DaySet___or__ (C8.fnScope s_DaySet___or__) := fnScope_by (by decide +kernel)
abbrev s_DaySet___and__ : Stmt := inClass (top 18) 16
abbrev N_DaySet___and__ : List Str := ["self", "other"]
abbrev P_DaySet___and__ : List Str := ["self", "other"]
theorem sc_DaySet___and__ : FnScope N_DaySet___and__ P_DaySet___and__ (C8.fnScope s_DaySet___and__) := fnScope_by (by decide +kernel)
abbrev s_DaySet___sub__ : Stmt := inClass (top 18) 17
abbrev N_DaySet___sub__ : List Str := ["self", "other"]
abbrev P_DaySet___sub__ : List Str := ["self", "other"]
theorem sc_DaySet___sub__ : FnScope N_DaySet___sub__ P_DaySet___sub__ (C8.fnScope s_DaySet___sub__) := fnScope_by (by decide +kernel)
abbrev s_DaySet___xor__ : Stmt := inClass (top 18) 18
abbrev N_DaySet___xor__ : List Str := ["self", "other"]
abbrev P_DaySet___xor__ : List Str := ["self", "other"]
theorem sc_DaySet___xor__ : FnScope N_DaySet___xor__ P_DaySet___xor__ (C8.fnScope s_DaySet___xor__) := fnScope_by (by decide +kernel)
abbrev s_DaySet___invert__ : Stmt := inClass (top 18) 19
abbrev N_DaySet___invert__ : List Str := ["self"]
abbrev P_DaySet___invert__ : List Str := ["self"]
theorem sc_DaySet___invert__ : FnScope N_DaySet___invert__ P_DaySet___invert__ (C8.fnScope s_DaySet___invert__) := fnScope_by (by decide +kernel)
section
variable {P : Program} {w : World} {K : PySem.W.Frag} {mg : Str → Option Value} {base : Heap}
def sp_bin (C : Addr) (t : Bool → Bool → Bool) : Sp := fun vs H Q _ => ∃ (p q : Addr) (f g : Int → Bool) (c b : Int), vs = [.ref p, .ref q] ∧ IsDay C H p f ∧ IsDay C H q g ∧ Ok f c b ∧ Ok g c b ∧
  ∀ r H', Le H H' → IsDay C H' r (fun n => t (f n) (g n)) → H r = none → Q (.ref r) H'
theorem tab_or : rowS (tabS (fun a b => a || b)) = ("0111" : Str) := by decide +kernel
theorem q_or {C : Addr} (T : Txt K mg) (D : DSC K mg C) (M : MetOf K C "__or__" "DaySet.__or__" s_DaySet___or__ P_DaySet___or__) (Q_DaySet_merged : Met P w K mg base 6 C "merged" (sp_merged C) []) : Met P w K mg base 7 C "__or__" (sp_bin C (fun a b => a || b)) [] := by
  obtain ⟨g, fd, M, F, B⟩ := M
  refine met0 D.cl M F B sc_DaySet___or__ (fun vs H Q E h => by obtain ⟨_, _, _, _, _, _, rfl, _⟩ := h; rfl) (fun cdv A outer s H vs Q E hr h => ?_)
  obtain ⟨p, q, f, g, c, b, rfl, hp, hq, o1, o2, qq⟩ := h
  have nd := sc_DaySet___or__.nd
  refine ⟨_, (pss_one (ps_ret (pe_mt Q_DaySet_merged hr (by decide) (pv 0) (pa_cons (pv 1) (pa_cons pe_str pa_nil))))), ?_⟩
  obtain ⟨F, dx, L, z, hm, hp1⟩ := id hp
  refine ⟨_, rfl, _, _, _, rfl, hp1, by rfl, _, rfl, p, q, (fun a b => a || b), f, g, c, b, ?_, hp, hq, o1.c0, o1.c1, o1.b0, o1.b1, o1.fit, o2.fit, qq⟩
  rw [tab_or]
  rfl
theorem tab_and : rowS (tabS (fun a b => a && b)) = ("0001" : Str) := by decide +kernel
theorem q_and {C : Addr} (T : Txt K mg) (D : DSC K mg C) (M : MetOf K C "__and__" "DaySet.__and__" s_DaySet___and__ P_DaySet___and__) (Q_DaySet_merged : Met P w K mg base 6 C "merged" (sp_merged C) []) : Met P w K mg base 7 C "__and__" (sp_bin C (fun a b => a && b)) [] := by
  obtain ⟨g, fd, M, F, B⟩ := M
  refine met0 D.cl M F B sc_DaySet___and__ (fun vs H Q E h => by obtain ⟨_, _, _, _, _, _, rfl, _⟩ := h; rfl) (fun cdv A outer s H vs Q E hr h => ?_)
  obtain ⟨p, q, f, g, c, b, rfl, hp, hq, o1, o2, qq⟩ := h
  have nd := sc_DaySet___and__.nd
  refine ⟨_, (pss_one (ps_ret (pe_mt Q_DaySet_merged hr (by decide) (pv 0) (pa_cons (pv 1) (pa_cons pe_str pa_nil))))), ?_⟩
  obtain ⟨F, dx, L, z, hm, hp1⟩ := id hp
  refine ⟨_, rfl, _, _, _, rfl, hp1, by rfl, _, rfl, p, q, (fun a b => a && b), f, g, c, b, ?_, hp, hq, o1.c0, o1.c1, o1.b0, o1.b1, o1.fit, o2.fit, qq⟩
  rw [tab_and]
  rfl
theorem tab_sub : rowS (tabS (fun a b => a && !b)) = ("0010" : Str) := by decide +kernel
theorem q_sub {C : Addr} (T : Txt K mg) (D : DSC K mg C) (M : MetOf K C "__sub__" "DaySet.__sub__" s_DaySet___sub__ P_DaySet___sub__) (Q_DaySet_merged : Met P w K mg base 6 C "merged" (sp_merged C) []) : Met P w K mg base 7 C "__sub__" (sp_bin C (fun a b => a && !b)) [] := by
  obtain ⟨g, fd, M, F, B⟩ := M
  refine met0 D.cl M F B sc_DaySet___sub__ (fun vs H Q E h => by obtain ⟨_, _, _, _, _, _, rfl, _⟩ := h; rfl) (fun cdv A outer s H vs Q E hr h => ?_)
  obtain ⟨p, q, f, g, c, b, rfl, hp, hq, o1, o2, qq⟩ := h
  have nd := sc_DaySet___sub__.nd
  refine ⟨_, (pss_one (ps_ret (pe_mt Q_DaySet_merged hr (by decide) (pv 0) (pa_cons (pv 1) (pa_cons pe_str pa_nil))))), ?_⟩
  obtain ⟨F, dx, L, z, hm, hp1⟩ := id hp
  refine ⟨_, rfl, _, _, _, rfl, hp1, by rfl, _, rfl, p, q, (fun a b => a && !b), f, g, c, b, ?_, hp, hq, o1.c0, o1.c1, o1.b0, o1.b1, o1.fit, o2.fit, qq⟩
  rw [tab_sub]
  rfl
theorem tab_xor : rowS (tabS (fun a b => a != b)) = ("0110" : Str) := by decide +kernel
theorem q_xor {C : Addr} (T : Txt K mg) (D : DSC K mg C) (M : MetOf K C "__xor__" "DaySet.__xor__" s_DaySet___xor__ P_DaySet___xor__) (Q_DaySet_merged : Met P w K mg base 6 C "merged" (sp_merged C) []) : Met P w K mg base 7 C "__xor__" (sp_bin C (fun a b => a != b)) [] := by
  obtain ⟨g, fd, M, F, B⟩ := M
  refine met0 D.cl M F B sc_DaySet___xor__ (fun vs H Q E h => by obtain ⟨_, _, _, _, _, _, rfl, _⟩ := h; rfl) (fun cdv A outer s H vs Q E hr h => ?_)
  obtain ⟨p, q, f, g, c, b, rfl, hp, hq, o1, o2, qq⟩ := h
  have nd := sc_DaySet___xor__.nd
  refine ⟨_, (pss_one (ps_ret (pe_mt Q_DaySet_merged hr (by decide) (pv 0) (pa_cons (pv 1) (pa_cons pe_str pa_nil))))), ?_⟩
  obtain ⟨F, dx, L, z, hm, hp1⟩ := id hp
  refine ⟨_, rfl, _, _, _, rfl, hp1, by rfl, _, rfl, p, q, (fun a b => a != b), f, g, c, b, ?_, hp, hq, o1.c0, o1.c1, o1.b0, o1.b1, o1.fit, o2.fit, qq⟩
  rw [tab_xor]
  rfl
theorem tab_inv : rowS (tabS (fun a b => !(a && b))) = ("1110" : Str) := by decide +kernel
def sp_inv (C : Addr) : Sp := fun vs H Q _ => ∃ (p : Addr) (f : Int → Bool) (c b : Int), vs = [.ref p] ∧ IsDay C H p f ∧ Ok f c b ∧ ∀ r H', Le H H' → IsDay C H' r (fun n => !f n) → H r = none → Q (.ref r) H'
theorem q_invert {C : Addr} (T : Txt K mg) (D : DSC K mg C) (M : MetOf K C "__invert__" "DaySet.__invert__" s_DaySet___invert__ P_DaySet___invert__) (Q_DaySet_merged : Met P w K mg base 6 C "merged" (sp_merged C) []) : Met P w K mg base 7 C "__invert__" (sp_inv C) [] := by
  obtain ⟨g, fd, M, F, B⟩ := M
  refine met0 D.cl M F B sc_DaySet___invert__ (fun vs H Q E h => by obtain ⟨_, _, _, _, rfl, _⟩ := h; rfl) (fun cdv A outer s H vs Q E hr h => ?_)
  obtain ⟨p, f, c, b, rfl, hp, o1, qq⟩ := h
  have nd := sc_DaySet___invert__.nd
  refine ⟨_, (pss_one (ps_ret (pe_mt Q_DaySet_merged hr (by decide) (pv 0) (pa_cons (pv 0) (pa_cons pe_str pa_nil))))), ?_⟩
  obtain ⟨F, dx, L, z, hm, hp1⟩ := id hp
  refine ⟨_, rfl, _, _, _, rfl, hp1, by rfl, _, rfl, p, p, (fun a b => !(a && b)), f, f, c, b, ?_, hp, hp, o1.c0, o1.c1, o1.b0, o1.b1, o1.fit, o1.fit, fun r H' le hd h0 => qq r H' le (hd.to fun n => by simp) h0⟩
  rw [tab_inv]
  rfl
end
end Od
end
section
set_option Elab.async false
set_option linter.all false
set_option autoImplicit false
/-! written forms as texts -/
namespace Od
open PySem PySem.Spec PyProof.Rows L2 Day
def numS (n : Int) : Str := Str.ofString (toString n)
theorem numS_tl (n : Int) : (numS n).cps.toList = if n < 0 then 45 :: TL.numL n.natAbs else TL.numL n.natAbs := by
  cases n with
  | ofNat m =>
    rw [if_neg (by show ¬ ((m : Int) < 0); omega)]
    exact TL.tl_num m
  | negSucc m =>
    rw [if_pos (Int.negSucc_lt_zero m)]
    unfold numS
    rw [Str.ofString_eq_toList]
    show ("-" ++ Nat.repr (m + 1)).toList.map Char.toNat = _
    rw [String.toList_append, List.map_append, Nat.toList_repr]
    rfl
theorem numS_inj {m n : Int} (h : numS m = numS n) : m = n := by
  have e : (numS m).cps.toList = (numS n).cps.toList := by rw [h]
  rw [numS_tl, numS_tl] at e
  have nd : ∀ k : Nat, ∀ l : List Nat, TL.numL k ≠ 45 :: l := fun k l z => by
    have : 45 ∈ TL.numL k := by rw [z]; exact List.mem_cons_self
    exact TL.numL_free (.inl (by decide)) this
  by_cases h1 : m < 0
  · by_cases h2 : n < 0
    · rw [if_pos h1, if_pos h2] at e
      injection e with _ e
      have := TL.numL_inj e
      omega
    · rw [if_pos h1, if_neg h2] at e
      exact absurd e.symm (nd _ _)
  · by_cases h2 : n < 0
    · rw [if_neg h1, if_pos h2] at e
      exact absurd e (nd _ _)
    · rw [if_neg h1, if_neg h2] at e
      have := TL.numL_inj e
      omega
theorem numS_free {k : Nat} (h : k < 45 ∨ (45 < k ∧ k < 48) ∨ 57 < k) (n : Int) : k ∉ (numS n).cps.toList := by
  rw [numS_tl]
  split
  · intro hm
    rcases List.mem_cons.mp hm with e | hm
    · omega
    · exact TL.numL_free (by omega) hm
  · exact TL.numL_free (by omega)
theorem numS_len {n : Int} {k : Nat} (hk : 0 < k) (h : n.natAbs < 10 ^ k) : (numS n).length ≤ k + 1 := by
  have e : (numS n).length = (numS n).cps.toList.length := by simp [Str.length]
  have := TL.numL_len hk h
  rw [e, numS_tl]
  split
  · rw [List.length_cons]; omega
  · omega
/-- the middle as a word -/
def midS (m : List Bool) : Str := if m = [] then ("-" : Str) else rowS m
def strF (F : Frm) : Str := Str.empty ++ rowS F.l ++ (" " : Str) ++ numS F.low ++ (" " : Str) ++ midS F.m ++ (" " : Str) ++ rowS F.r
theorem app_tl (a b : Str) : (a ++ b).cps.toList = a.cps.toList ++ b.cps.toList := by
  show (a.cps ++ b.cps).toList = _
  simp
theorem tl_sp : ((" " : Str)).cps.toList = [32] := by decide +kernel
theorem tl_dash : (("-" : Str)).cps.toList = [45] := by decide +kernel
theorem strF_tl (F : Frm) : (strF F).cps.toList = F.l.map sg ++ 32 :: ((numS F.low).cps.toList ++ 32 :: ((midS F.m).cps.toList ++ 32 :: F.r.map sg)) := by
  unfold strF
  rw [app_tl, app_tl, app_tl, app_tl, app_tl, app_tl, app_tl, tl_sp, rowS_tl, rowS_tl]
  show (([] ++ F.l.map sg ++ [32]) ++ _ ++ _ ++ _ ++ _ ++ _) = _
  simp
theorem cut_at {c : Nat} : ∀ {a a' b b' : List Nat}, c ∉ a → c ∉ a' → a ++ c :: b = a' ++ c :: b' → a = a' ∧ b = b'
  | [], [], _, _, _, _, e => ⟨rfl, by injection e⟩
  | [], x :: a', _, _, _, h, e => by
    injection e with e1 _
    exact absurd (by rw [e1]; exact List.mem_cons_self) h
  | x :: a, [], _, _, h, _, e => by
    injection e with e1 _
    exact absurd (by rw [← e1]; exact List.mem_cons_self) h
  | x :: a, y :: a', b, b', h, h', e => by
    injection e with e1 e2
    obtain ⟨q1, q2⟩ := cut_at (fun m => h (List.mem_cons_of_mem _ m)) (fun m => h' (List.mem_cons_of_mem _ m)) e2
    exact ⟨by rw [e1, q1], q2⟩
theorem sg_free {l : List Bool} {k : Nat} (h : k ≠ 48) (h' : k ≠ 49) : k ∉ l.map sg := fun m => by
  obtain ⟨b, _, e⟩ := List.mem_map.mp m
  cases b
  · exact h e.symm
  · exact h' e.symm
theorem midS_tl (m : List Bool) : (midS m).cps.toList = if m = [] then [45] else m.map sg := by
  unfold midS
  split
  · exact tl_dash
  · rfl
theorem midS_inj {m n : List Bool} (h : (midS m).cps.toList = (midS n).cps.toList) : m = n := by
  rw [midS_tl, midS_tl] at h
  by_cases h1 : m = []
  · by_cases h2 : n = []
    · rw [h1, h2]
    · rw [if_pos h1, if_neg h2] at h
      exact absurd (by rw [← h]; exact List.mem_cons_self) (sg_free (l := n) (k := 45) (by decide) (by decide))
  · by_cases h2 : n = []
    · rw [if_neg h1, if_pos h2] at h
      exact absurd (by rw [h]; exact List.mem_cons_self) (sg_free (l := m) (k := 45) (by decide) (by decide))
    · rw [if_neg h1, if_neg h2] at h
      exact rowS_inj (congrArg SX.S h)
theorem midS_free {k : Nat} (h : k ≠ 48) (h' : k ≠ 49) (h2 : k ≠ 45) (m : List Bool) : k ∉ (midS m).cps.toList := by
  rw [midS_tl]
  split
  · simp [h2]
  · exact sg_free h h'
theorem strF_inj {F G : Frm} (h : strF F = strF G) : F = G := by
  have e : (strF F).cps.toList = (strF G).cps.toList := by rw [h]
  rw [strF_tl, strF_tl] at e
  obtain ⟨e1, e⟩ := cut_at (sg_free (by decide) (by decide)) (sg_free (by decide) (by decide)) e
  obtain ⟨e2, e⟩ := cut_at (numS_free (.inl (by decide)) _) (numS_free (.inl (by decide)) _) e
  obtain ⟨e3, e4⟩ := cut_at (midS_free (by decide) (by decide) (by decide) _) (midS_free (by decide) (by decide) (by decide) _) e
  have h1 := rowS_inj (congrArg SX.S e1)
  have h2 := numS_inj (n := G.low) (m := F.low) (TL.ext_tl e2)
  have h3 := midS_inj e3
  have h4 := rowS_inj (congrArg SX.S e4)
  cases F
  cases G
  simp only at h1 h2 h3 h4
  rw [h1, h2, h3, h4]
end Od
end
section
set_option Elab.async false
set_option linter.all false
set_option maxRecDepth 100000
set_option maxHeartbeats 2000000
set_option autoImplicit false
namespace Od
open PySem PySem.Spec PyProof.Rows L2 C8 Day
abbrev s_DaySet___str__ : Stmt := inClass (top 18) 11
abbrev N_DaySet___str__ : List Str := ["self", "middle"]
abbrev P_DaySet___str__ : List Str := ["self"]
theorem sc_DaySet___str__ : FnScope N_DaySet___str__ P_DaySet___str__ (C8.fnScope s_DaySet___str__) := fnScope_by (by decide +kernel)
abbrev s_DaySet___bool__ : Stmt := inClass (top 18) 13
abbrev N_DaySet___bool__ : List Str := ["self"]
abbrev P_DaySet___bool__ : List Str := ["self"]
theorem sc_DaySet___bool__ : FnScope N_DaySet___bool__ P_DaySet___bool__ (C8.fnScope s_DaySet___bool__) := fnScope_by (by decide +kernel)
abbrev s_DaySet___eq__ : Stmt := inClass (top 18) 14
abbrev N_DaySet___eq__ : List Str := ["self", "other"]
abbrev P_DaySet___eq__ : List Str := ["self", "other"]
theorem sc_DaySet___eq__ : FnScope N_DaySet___eq__ P_DaySet___eq__ (C8.fnScope s_DaySet___eq__) := fnScope_by (by decide +kernel)
abbrev s_DaySet___contains__ : Stmt := inClass (top 18) 12
abbrev N_DaySet___contains__ : List Str := ["self", "x"]
abbrev P_DaySet___contains__ : List Str := ["self", "x"]
theorem sc_DaySet___contains__ : FnScope N_DaySet___contains__ P_DaySet___contains__ (C8.fnScope s_DaySet___contains__) := fnScope_by (by decide +kernel)
abbrev s_DaySet_goes_up : Stmt := inClass (top 18) 30
abbrev N_DaySet_goes_up : List Str := ["self"]
abbrev P_DaySet_goes_up : List Str := ["self"]
theorem sc_DaySet_goes_up : FnScope N_DaySet_goes_up P_DaySet_goes_up (C8.fnScope s_DaySet_goes_up) := fnScope_by (by decide +kernel)
abbrev s_DaySet_goes_down : Stmt := inClass (top 18) 31
abbrev N_DaySet_goes_down : List Str := ["self"]
abbrev P_DaySet_goes_down : List Str := ["self"]
theorem sc_DaySet_goes_down : FnScope N_DaySet_goes_down P_DaySet_goes_down (C8.fnScope s_DaySet_goes_down) := fnScope_by (by decide +kernel)
theorem Ok.sizes {F : Frm} {c b : Int} (o : Ok F.mem c b) (L : Least F) : F.low.natAbs < 10 ^ 8 ∧ F.high ≤ b ∧ -b - 2 * c ≤ F.low ∧ (F.l.length : Int) ≤ c ∧ (F.r.length : Int) ≤ c ∧ c % F.l.length = 0 ∧ c % F.r.length = 0 := by
  obtain ⟨h1, h2, h3, h4, h5, h6⟩ := o.fit.form L o.c0 o.b0
  have := o.c0; have := o.c1; have := o.b0; have := o.b1
  have := F.low_high
  exact ⟨by omega, h5, h6, h1, h2, h3, h4⟩
theorem log_lt {n : Nat} (h : n < 10 ^ 8) : n.log2 < 1920 := by
  by_cases c : n = 0
  · subst c; decide
  · rw [Nat.log2_lt c]
    exact Nat.lt_of_lt_of_le h (Nat.le_trans (show 10 ^ 8 ≤ 2 ^ 27 by decide) (Nat.pow_le_pow_right (by decide) (by decide)))
theorem lenA (a b : Str) : (a ++ b).length = a.length + b.length := by
  show (a.cps ++ b.cps).size = _
  rw [Array.size_append]
  rfl
/-- a day of it -/
def Any (f : Int → Bool) : Prop := ∃ n, f n = true
theorem any_mem {l : List Bool} : (49 ∈ l.map sg) ↔ true ∈ l := by
  rw [List.mem_map]
  constructor
  · rintro ⟨b, hb, e⟩
    cases b
    · cases e
    · exact hb
  · intro h
    exact ⟨true, h, rfl⟩
theorem cyc_mem {l : List Bool} (l0 : l ≠ []) (z : Int) (h : cyc l z = true) : true ∈ l := by
  unfold cyc at h
  have h1 := Int.emod_lt_of_pos z (show (0 : Int) < l.length by have := prim_len l0; omega)
  have h2 := Int.emod_nonneg z (show (l.length : Int) ≠ 0 by have := prim_len l0; omega)
  have h3 : (z % (l.length : Int)).toNat < l.length := by omega
  rw [List.getD_eq_getElem?_getD, List.getElem?_eq_getElem h3] at h
  have h4 : l[(z % (l.length : Int)).toNat] = true := h
  rw [← h4]
  exact List.getElem_mem _
theorem mem_cyc {l : List Bool} (h : true ∈ l) : ∃ i : Nat, i < l.length ∧ cyc l (i : Int) = true := by
  obtain ⟨i, hi, e⟩ := List.mem_iff_getElem.mp h
  refine ⟨i, hi, ?_⟩
  rw [cyc_nat hi, List.getD_eq_getElem?_getD, List.getElem?_eq_getElem hi, e]
  rfl
theorem any_form {F : Frm} (L : Least F) : (49 ∈ (F.l ++ F.m ++ F.r).map sg) ↔ Any F.mem := by
  rw [any_mem, List.mem_append, List.mem_append]
  constructor
  · rintro ((h | h) | h)
    · obtain ⟨i, hi, e⟩ := mem_cyc h
      refine ⟨F.low - F.l.length + i, ?_⟩
      rw [F.mem_dn (by omega)]
      rw [← cyc_per] at e
      rw [show F.low - (F.l.length : Int) + (i : Int) - F.low = (i : Int) + (-1) * F.l.length by omega, cyc_per.at]
      rw [cyc_per] at e
      exact e
    · obtain ⟨i, hi, e⟩ := List.mem_iff_getElem.mp h
      refine ⟨F.low + i, ?_⟩
      rw [F.mem_mid (by omega) (by unfold Frm.high; omega), show (F.low + (i : Int) - F.low).toNat = i by omega, List.getD_eq_getElem?_getD, List.getElem?_eq_getElem hi, e]
      rfl
    · obtain ⟨i, hi, e⟩ := mem_cyc h
      refine ⟨F.high + i, ?_⟩
      rw [F.mem_up (by omega), show F.high + (i : Int) - F.high = i by omega]
      exact e
  · rintro ⟨n, hn⟩
    by_cases h1 : F.high ≤ n
    · rw [F.mem_up h1] at hn
      exact .inr (cyc_mem L.r0 _ hn)
    · by_cases h2 : n < F.low
      · rw [F.mem_dn h2] at hn
        exact .inl (.inl (cyc_mem L.l0 _ hn))
      · rw [F.mem_mid (by omega) (by omega)] at hn
        refine .inl (.inr ?_)
        have h3 : (n - F.low).toNat < F.m.length := by unfold Frm.high at h1; omega
        rw [List.getD_eq_getElem?_getD, List.getElem?_eq_getElem h3] at hn
        have h4 : F.m[(n - F.low).toNat] = true := hn
        rw [← h4]
        exact List.getElem_mem _
section
variable {P : Program} {w : World} {K : PySem.W.Frag} {mg : Str → Option Value} {base : Heap}
/-! ### __str__ -/
def sp_str (C : Addr) : Sp := fun vs H Q _ => ∃ (p : Addr) (f : Int → Bool) (c b : Int), vs = [.ref p] ∧ IsDay C H p f ∧ Ok f c b ∧ ∀ F, Least F → (∀ n, F.mem n = f n) → Q (.str (strF F)) H
theorem q_str {C : Addr} (T : Txt K mg) (D : DSC K mg C) (M : MetOf K C "__str__" "DaySet.__str__" s_DaySet___str__ P_DaySet___str__) : Met P w K mg base 1 C "__str__" (sp_str C) [] := by
  obtain ⟨g, fd, M, F, B⟩ := M
  refine met0 D.cl M F B sc_DaySet___str__ (fun vs H Q E h => by obtain ⟨_, _, _, _, rfl, _⟩ := h; rfl) (fun cdv A outer s H vs Q E hr h => ?_)
  obtain ⟨p, f, c, b, rfl, ⟨F, dx, L, z, hm, hp1⟩, o1, qq⟩ := h
  have nd := sc_DaySet___str__.nd
  refine ⟨_, (C8.pss_cut (ps_set (i := 1) nd rfl (Or.inl rfl) (pe_ifExp (pt_cmpR op_eq (pe_fld (pv 0) rfl) pe_str (nomark _)) pe_str (pe_fld (pv 0) rfl)))
      (pss_one (ps_ret (pe_joined (.cons (pe_fmt (pe_fld (pv 0) rfl)) (.cons pe_str (.cons (pe_fmt (pe_fld (pv 0) rfl)) (.cons pe_str (.cons (pe_fmt (pv 1)) (.cons pe_str (.cons (pe_fmt (pe_fld (pv 0) rfl)) .nil))))))))))), ?_⟩
  have ef : F.mem = f := funext hm
  subst ef
  obtain ⟨z1, _⟩ := o1.sizes L
  refine ⟨fun σ' H' => H' = H ∧ σ' = [some (.ref p), some (.str (midS F.m))], ?_, ?_⟩
  · refine ⟨_, rfl, _, _, _, _, _, rfl, hp1, D.cl, D.n_middle, f_middle F, rfl, _, rfl, ?_⟩
    have ed : decide (V.str (rowS F.m) = V.str ("" : Str)) = decide (F.m = []) := by rw [← rowS_nil, rowS_dec]
    show if decide (V.str (rowS F.m) = V.str ("" : Str)) = true then _ else _
    rw [ed]
    refine ite2 (fun c => ?_) (fun c => ?_)
    · have e : F.m = [] := of_decide_eq_true c
      exact ⟨rfl, by unfold midS; rw [if_pos e]; rfl⟩
    · have e : ¬ F.m = [] := fun e => c (decide_eq_true e)
      exact ⟨_, rfl, _, _, _, _, _, rfl, hp1, D.cl, D.n_middle, f_middle F, rfl, by unfold midS; rw [if_neg e]; rfl⟩
  rintro σ' H' ⟨rfl, rfl⟩
  have lg : F.low.natAbs.log2 < 1920 := log_lt z1
  have l1 : (numS F.low).length ≤ 9 := numS_len (by decide) z1
  have l2 : (rowS F.l).length ≤ 4194304 := by rw [rowS_len]; exact z.l
  have l3 : (midS F.m).length ≤ 4194304 := by
    unfold midS
    split
    · decide +kernel
    · rw [rowS_len]; exact z.m
  have l4 : (rowS F.r).length ≤ 4194304 := by rw [rowS_len]; exact z.r
  have l5 : ((" " : Str)).length = 1 := by decide +kernel
  have l0 : (Str.empty).length = 0 := rfl
  have sz : sizeLine = 16777216 := sizeLine_eq
  refine ⟨_, rfl, _, _, _, _, _, rfl, hp1, D.cl, D.n_left, f_left F, .inl ⟨_, rfl, by omega, _, rfl, by rw [lenA]; omega, ?_⟩⟩
  refine ⟨_, rfl, by rw [lenA, lenA]; omega, ?_⟩
  refine ⟨_, rfl, _, _, _, _, _, rfl, hp1, D.cl, D.n_low, f_low F, .inr ⟨_, rfl, lg, _, rfl, ?_, ?_⟩⟩
  · show (_ ++ numS F.low).length ≤ _
    rw [lenA, lenA, lenA]; omega
  refine ⟨_, rfl, ?_, ?_⟩
  · show (_ ++ numS F.low ++ _).length ≤ _
    rw [lenA, lenA, lenA, lenA]; omega
  refine ⟨_, rfl, .inl ⟨_, rfl, by omega, _, rfl, ?_, ?_⟩⟩
  · show (_ ++ numS F.low ++ _ ++ _).length ≤ _
    rw [lenA, lenA, lenA, lenA, lenA]; omega
  refine ⟨_, rfl, ?_, ?_⟩
  · show (_ ++ numS F.low ++ _ ++ _ ++ _).length ≤ _
    rw [lenA, lenA, lenA, lenA, lenA, lenA]; omega
  refine ⟨_, rfl, _, _, _, _, _, rfl, hp1, D.cl, D.n_right, f_right F, .inl ⟨_, rfl, by omega, _, rfl, ?_, ?_⟩⟩
  · show (_ ++ numS F.low ++ _ ++ _ ++ _ ++ _).length ≤ _
    rw [lenA, lenA, lenA, lenA, lenA, lenA, lenA]; omega
  exact qq F L fun _ => rfl
/-! ### __bool__ -/
def sp_bool (C : Addr) : Sp := fun vs H Q _ => ∃ (p : Addr) (f : Int → Bool), vs = [.ref p] ∧ IsDay C H p f ∧ ∀ b, (b = true ↔ Any f) → Q (.bl b) H
theorem q_bool {C : Addr} (T : Txt K mg) (D : DSC K mg C) (M : MetOf K C "__bool__" "DaySet.__bool__" s_DaySet___bool__ P_DaySet___bool__) : Met P w K mg base 1 C "__bool__" (sp_bool C) [] := by
  obtain ⟨g, fd, M, F, B⟩ := M
  refine met0 D.cl M F B sc_DaySet___bool__ (fun vs H Q E h => by obtain ⟨_, _, rfl, _⟩ := h; rfl) (fun cdv A outer s H vs Q E hr h => ?_)
  obtain ⟨p, f, rfl, ⟨F, dx, L, z, hm, hp1⟩, qq⟩ := h
  have nd := sc_DaySet___bool__.nd
  refine ⟨_, (pss_one (ps_ret (pe_cmpR op_in_sign pe_str (pe_op op_add_str (pe_op op_add_str (pe_fld (pv 0) rfl) (pe_fld (pv 0) rfl)) (pe_fld (pv 0) rfl)) (by rfl)))), ?_⟩
  have ef : F.mem = f := funext hm
  subst ef
  have sz : sizeLine = 16777216 := sizeLine_eq
  have h1 := z.l
  have h2 := z.m
  have h3 := z.r
  refine ⟨_, rfl, _, _, _, _, _, rfl, hp1, D.cl, D.n_left, f_left F, _, rfl, _, _, _, _, _, rfl, hp1, D.cl, D.n_middle, f_middle F, _, _, rfl, rfl, by rw [rowS_len, rowS_len]; omega, _, rfl, _, _, _, _, _, rfl, hp1, D.cl, D.n_right, f_right F, _, _, rfl, rfl, ?_, 49, _, rfl, rfl, ?_⟩
  · rw [rowS_cat, rowS_len, rowS_len, List.length_append]; omega
  refine qq _ ?_
  rw [rowS_cat, rowS_cat, rowS_tl, decide_eq_true_iff]
  exact any_form L
/-! ### __contains__ -/
def sp_has (C : Addr) : Sp := fun vs H Q _ => ∃ (p : Addr) (n : Int) (f : Int → Bool), vs = [.ref p, .int n] ∧ IsDay C H p f ∧ Q (.bl (f n)) H
theorem q_contains {C : Addr} (T : Txt K mg) (D : DSC K mg C) (M : MetOf K C "__contains__" "DaySet.__contains__" s_DaySet___contains__ P_DaySet___contains__) (Q_DaySet_sign : Met P w K mg base 1 C "sign" (sp_sign C) []) : Met P w K mg base 2 C "__contains__" (sp_has C) [] := by
  obtain ⟨g, fd, M, F, B⟩ := M
  refine met0 D.cl M F B sc_DaySet___contains__ (fun vs H Q E h => by obtain ⟨_, _, _, rfl, _⟩ := h; rfl) (fun cdv A outer s H vs Q E hr h => ?_)
  obtain ⟨p, n, f, rfl, hp, qq⟩ := h
  have nd := sc_DaySet___contains__.nd
  refine ⟨_, (pss_one (ps_ret (pe_cmpR op_eq (pe_mt Q_DaySet_sign hr (by decide) (pv 0) (pa_cons (pv 1) pa_nil)) pe_int (nomark _)))), ?_⟩
  obtain ⟨F, dx, L, z, hm, hp1⟩ := id hp
  refine ⟨_, rfl, _, _, _, rfl, hp1, by rfl, _, rfl, p, n, f, rfl, hp, rfl, ?_⟩
  rw [bi_dec]
  exact qq
/-! ### __eq__ -/
def sp_eq (C : Addr) : Sp := fun vs H Q _ => ∃ (p q : Addr) (f g : Int → Bool) (c b c' b' : Int), vs = [.ref p, .ref q] ∧ IsDay C H p f ∧ IsDay C H q g ∧ Ok f c b ∧ Ok g c' b' ∧ ∀ e, (e = true ↔ ∀ n, f n = g n) → Q (.bl e) H
theorem q_eq {C : Addr} (T : Txt K mg) (D : DSC K mg C) (M : MetOf K C "__eq__" "DaySet.__eq__" s_DaySet___eq__ P_DaySet___eq__) (Q_DaySet___str__ : Met P w K mg base 1 C "__str__" (sp_str C) []) : Met P w K mg base 3 C "__eq__" (sp_eq C) [] := by
  obtain ⟨g, fd, M, F, B⟩ := M
  refine met0 D.cl M F B sc_DaySet___eq__ (fun vs H Q E h => by obtain ⟨_, _, _, _, _, _, _, _, rfl, _⟩ := h; rfl) (fun cdv A outer s H vs Q E hr h => ?_)
  obtain ⟨p, q, f, g, c, b, c', b', rfl, hp, hq, o1, o2, qq⟩ := h
  have nd := sc_DaySet___eq__.nd
  refine ⟨_, (pss_one (ps_ret (pe_and (pe_callB call_isi (by rfl) T.b_isinstance (by decide +kernel) (pa_cons (pv 1) (pa_cons (pe_gc rfl D.g) pa_nil))) (pe_one (pe_cmpR op_eq (pe_callTy (call_str_ownM Q_DaySet___str__ hr (by decide)) (by rfl) T.b_str (by decide +kernel) (pa_cons (pv 0) pa_nil)) (pe_callTy (call_str_ownM Q_DaySet___str__ hr (by decide)) (by rfl) T.b_str (by decide +kernel) (pa_cons (pv 1) pa_nil)) (nomark _)))))), ?_⟩
  obtain ⟨F, dx, L, z, hm, hp1⟩ := id hp
  obtain ⟨G, dy, LG, zG, hmG, hq1⟩ := id hq
  refine ⟨_, rfl, _, _, _, _, true, rfl, .own C, .base (.ins hq1 D.cl D.ha D.hn D.htk D.ob), D.isi, true, rfl, ?_⟩
  refine ⟨_, rfl, _, _, _, rfl, hp1, p, f, c, b, rfl, hp, o1, fun F' hF' hm' => ⟨_, rfl, ?_⟩⟩
  refine ⟨_, rfl, _, _, _, rfl, hq1, q, g, c', b', rfl, hq, o2, fun G' hG' hmG' => ⟨_, rfl, rfl, ?_⟩⟩
  refine qq _ ?_
  rw [decide_eq_true_iff]
  constructor
  · intro e n
    injection e with e
    have := strF_inj e
    subst this
    rw [← hm', ← hmG']
  · intro e
    have : F' = G' := hF'.unique hG' fun n => by rw [hm', hmG', e]
    rw [this]
end
/-! .. as an argument of str -/
theorem str_one {C p : Addr} {H : Hp} {f : Int → Bool} {c b : Int} {F : Frm} {E : XK} {Q : VK} (d : IsDay C H p f) (o : Ok f c b) (L : Least F) (hm : ∀ n, F.mem n = f n) (q : Q (.str (strF F)) H) : rStr C (sp_str C) E [.ref p] H Q := by
  obtain ⟨F', dx, L', z, m, e⟩ := id d
  refine ⟨p, dx, _, rfl, e, p, f, c, b, rfl, d, o, fun F2 L2 hm2 => ?_⟩
  have : F2 = F := Least.unique L2 L fun n => (hm2 n).trans (hm n).symm
  subst this
  exact ⟨_, rfl, q⟩
end Od
end
section
set_option Elab.async false
set_option linter.all false
set_option maxRecDepth 100000
set_option maxHeartbeats 2000000
set_option autoImplicit false
namespace Od
open PySem PySem.Spec PyProof.Rows L2 C8 Day
theorem fm_get {α : Type} (xs : List α) : ((List.range xs.length).filterMap fun i => xs[i]?) = xs := by
  have h : ∀ n, n ≤ xs.length → ((List.range n).filterMap fun i => xs[i]?) = xs.take n := by
    intro n
    induction n with
    | zero => intro _; simp
    | succ n ih =>
      intro hn
      rw [List.range_succ, List.filterMap_append, ih (by omega), List.take_add_one]
      have : xs[n]? = some (xs[n]'(by omega)) := List.getElem?_eq_getElem (by omega)
      simp [this]
  rw [h _ (Nat.le_refl _), List.take_of_length_le (Nat.le_refl _)]
abbrev s_DaySet___le__ : Stmt := inClass (top 18) 20
abbrev N_DaySet___le__ : List Str := ["self", "other"]
abbrev P_DaySet___le__ : List Str := ["self", "other"]
theorem sc_DaySet___le__ : FnScope N_DaySet___le__ P_DaySet___le__ (C8.fnScope s_DaySet___le__) := fnScope_by (by decide +kernel)
abbrev s_DaySet___rshift__ : Stmt := inClass (top 18) 24
abbrev N_DaySet___rshift__ : List Str := ["self", "n"]
abbrev P_DaySet___rshift__ : List Str := ["self", "n"]
theorem sc_DaySet___rshift__ : FnScope N_DaySet___rshift__ P_DaySet___rshift__ (C8.fnScope s_DaySet___rshift__) := fnScope_by (by decide +kernel)
abbrev s_DaySet___lshift__ : Stmt := inClass (top 18) 25
abbrev N_DaySet___lshift__ : List Str := ["self", "n"]
abbrev P_DaySet___lshift__ : List Str := ["self", "n"]
theorem sc_DaySet___lshift__ : FnScope N_DaySet___lshift__ P_DaySet___lshift__ (C8.fnScope s_DaySet___lshift__) := fnScope_by (by decide +kernel)
abbrev s_DaySet___neg__ : Stmt := inClass (top 18) 26
abbrev N_DaySet___neg__ : List Str := ["self"]
abbrev P_DaySet___neg__ : List Str := ["self"]
theorem sc_DaySet___neg__ : FnScope N_DaySet___neg__ P_DaySet___neg__ (C8.fnScope s_DaySet___neg__) := fnScope_by (by decide +kernel)
abbrev s_DaySet_none : Stmt := inClass (top 18) 1
abbrev N_DaySet_none : List Str := ["cls"]
abbrev P_DaySet_none : List Str := ["cls"]
theorem sc_DaySet_none : FnScope N_DaySet_none P_DaySet_none (C8.fnScope s_DaySet_none) := fnScope_by (by decide +kernel)
abbrev s_DaySet_start : Stmt := inClass (top 18) 4
abbrev N_DaySet_start : List Str := ["cls", "n"]
abbrev P_DaySet_start : List Str := ["cls", "n"]
theorem sc_DaySet_start : FnScope N_DaySet_start P_DaySet_start (C8.fnScope s_DaySet_start) := fnScope_by (by decide +kernel)
theorem frm_shift (l : List Bool) (low : Int) (m r : List Bool) (k n : Int) : (Frm.mk l (low + k) m r).mem n = (Frm.mk l low m r).mem (n - k) := by
  have hh : (Frm.mk l (low + k) m r).high = low + k + m.length := rfl
  have hh' : (Frm.mk l low m r).high = low + m.length := rfl
  by_cases h1 : low + k + (m.length : Int) ≤ n
  · rw [Frm.mem_up _ (by rw [hh]; exact h1), Frm.mem_up _ (by rw [hh']; omega), hh, hh']
    congr 1; omega
  · by_cases h2 : n < low + k
    · rw [Frm.mem_dn _ h2, Frm.mem_dn _ (by show n - k < low; omega)]
      show cyc l (n - (low + k)) = cyc l (n - k - low)
      congr 1; omega
    · rw [Frm.mem_mid _ (by show low + k ≤ n; omega) (by rw [hh]; omega), Frm.mem_mid _ (by show low ≤ n - k; omega) (by rw [hh']; omega)]
      show m.getD (n - (low + k)).toNat false = m.getD (n - k - low).toNat false
      congr 2; omega
theorem cyc_rev {l : List Bool} (l0 : l ≠ []) (z : Int) : cyc l.reverse z = cyc l (-1 - z) := by
  have h0 := prim_len l0
  have h1 := Int.emod_lt_of_pos z (show (0 : Int) < l.length by omega)
  have h2 := Int.emod_nonneg z (show (l.length : Int) ≠ 0 by omega)
  have h3 : (-1 - z) % (l.length : Int) = l.length - 1 - z % (l.length : Int) := by
    have e : -1 - z = (l.length - 1 - z % (l.length : Int)) + (l.length : Int) * (-(z / (l.length : Int)) - 1) := by
      have := Int.mul_ediv_add_emod z (l.length : Int)
      rw [Int.mul_sub, Int.mul_neg]
      omega
    rw [e, Int.add_mul_emod_self_left, Int.emod_eq_of_lt (by omega) (by omega)]
  unfold cyc
  rw [h3, List.length_reverse]
  rw [List.getD_eq_getElem?_getD, List.getD_eq_getElem?_getD, List.getElem?_reverse (by omega)]
  congr 2
  omega
theorem frm_neg (F : Frm) (l0 : F.l ≠ []) (r0 : F.r ≠ []) (n : Int) : (Frm.mk F.r.reverse (1 - F.high) F.m.reverse F.l.reverse).mem n = F.mem (-n) := by
  have hh : (Frm.mk F.r.reverse (1 - F.high) F.m.reverse F.l.reverse).high = 1 - F.low := by
    unfold Frm.high
    simp only [List.length_reverse]
    omega
  by_cases h1 : 1 - F.low ≤ n
  · rw [Frm.mem_up _ (by rw [hh]; exact h1), hh, F.mem_dn (by omega)]
    show cyc F.l.reverse _ = _
    rw [cyc_rev l0]
    congr 1; omega
  · by_cases h2 : n < 1 - F.high
    · rw [Frm.mem_dn _ h2, F.mem_up (by omega)]
      show cyc F.r.reverse _ = _
      rw [cyc_rev r0]
      congr 1; simp only; omega
    · rw [Frm.mem_mid _ (by simp only; omega) (by rw [hh]; omega), F.mem_mid (by omega) (by omega)]
      show F.m.reverse.getD (n - (1 - F.high)).toNat false = _
      have : F.high = F.low + F.m.length := rfl
      rw [List.getD_eq_getElem?_getD, List.getD_eq_getElem?_getD, List.getElem?_reverse (by omega)]
      congr 2
      omega
section
variable {P : Program} {w : World} {K : PySem.W.Frag} {mg : Str → Option Value} {base : Heap}
/-! ### moved, turned -/
def sp_mv (C : Addr) (s : Int → Int) : Sp := fun vs H Q _ => ∃ (p : Addr) (k : Int) (f : Int → Bool), vs = [.ref p, .int k] ∧ IsDay C H p f ∧ ∀ r H', Le H H' → IsDay C H' r (fun n => f (n - s k)) → H r = none → Q (.ref r) H'
theorem q_rshift {C : Addr} (T : Txt K mg) (D : DSC K mg C) (M : MetOf K C "__rshift__" "DaySet.__rshift__" s_DaySet___rshift__ P_DaySet___rshift__) (M_DaySet : Mak P w K mg base 4 "DaySet" C (sp_init C) []) : Met P w K mg base 6 C "__rshift__" (sp_mv C fun k => k) [] := by
  obtain ⟨g, fd, M, F, B⟩ := M
  refine met0 D.cl M F B sc_DaySet___rshift__ (fun vs H Q E h => by obtain ⟨_, _, _, rfl, _⟩ := h; rfl) (fun cdv A outer s H vs Q E hr h => ?_)
  obtain ⟨p, k, f, rfl, ⟨F, dx, L, z, hm, hp1⟩, qq⟩ := h
  have nd := sc_DaySet___rshift__.nd
  refine ⟨_, (pss_one (ps_ret (pe_mk M_DaySet hr (by decide) rfl (pa_cons (pe_fld (pv 0) rfl) (pa_cons (pe_op op_add (pe_fld (pv 0) rfl) (pv 1)) (pa_cons (pe_fld (pv 0) rfl) (pa_cons (pe_fld (pv 0) rfl) pa_nil))))))), ?_⟩
  refine ⟨_, rfl, _, _, _, _, _, rfl, hp1, D.cl, D.n_left, f_left F, _, rfl, _, _, _, _, _, rfl, hp1, D.cl, D.n_low, f_low F, _, rfl, _, _, rfl, rfl, _, rfl, _, _, _, _, _, rfl, hp1, D.cl, D.n_middle, f_middle F, _, rfl, _, _, _, _, _, rfl, hp1, D.cl, D.n_right, f_right F, ?_⟩
  exact make_day F.l (F.low + k) F.m F.r _ L.l0 L.r0 z.l z.m z.r (fun n => by rw [frm_shift]; exact hm _) qq
theorem q_lshift {C : Addr} (T : Txt K mg) (D : DSC K mg C) (M : MetOf K C "__lshift__" "DaySet.__lshift__" s_DaySet___lshift__ P_DaySet___lshift__) (M_DaySet : Mak P w K mg base 4 "DaySet" C (sp_init C) []) : Met P w K mg base 6 C "__lshift__" (sp_mv C fun k => -k) [] := by
  obtain ⟨g, fd, M, F, B⟩ := M
  refine met0 D.cl M F B sc_DaySet___lshift__ (fun vs H Q E h => by obtain ⟨_, _, _, rfl, _⟩ := h; rfl) (fun cdv A outer s H vs Q E hr h => ?_)
  obtain ⟨p, k, f, rfl, ⟨F, dx, L, z, hm, hp1⟩, qq⟩ := h
  have nd := sc_DaySet___lshift__.nd
  refine ⟨_, (pss_one (ps_ret (pe_mk M_DaySet hr (by decide) rfl (pa_cons (pe_fld (pv 0) rfl) (pa_cons (pe_op op_sub (pe_fld (pv 0) rfl) (pv 1)) (pa_cons (pe_fld (pv 0) rfl) (pa_cons (pe_fld (pv 0) rfl) pa_nil))))))), ?_⟩
  refine ⟨_, rfl, _, _, _, _, _, rfl, hp1, D.cl, D.n_left, f_left F, _, rfl, _, _, _, _, _, rfl, hp1, D.cl, D.n_low, f_low F, _, rfl, _, _, rfl, rfl, _, rfl, _, _, _, _, _, rfl, hp1, D.cl, D.n_middle, f_middle F, _, rfl, _, _, _, _, _, rfl, hp1, D.cl, D.n_right, f_right F, ?_⟩
  exact make_day F.l (F.low - k) F.m F.r _ L.l0 L.r0 z.l z.m z.r (fun n => by rw [Int.sub_eq_add_neg, frm_shift]; exact hm _) qq
def sp_neg (C : Addr) : Sp := fun vs H Q _ => ∃ (p : Addr) (f : Int → Bool), vs = [.ref p] ∧ IsDay C H p f ∧ ∀ r H', Le H H' → IsDay C H' r (fun n => f (-n)) → H r = none → Q (.ref r) H'
theorem q_neg {C : Addr} (T : Txt K mg) (D : DSC K mg C) (M : MetOf K C "__neg__" "DaySet.__neg__" s_DaySet___neg__ P_DaySet___neg__) (M_DaySet : Mak P w K mg base 4 "DaySet" C (sp_init C) []) : Met P w K mg base 6 C "__neg__" (sp_neg C) [] := by
  obtain ⟨g, fd, M, F, B⟩ := M
  refine met0 D.cl M F B sc_DaySet___neg__ (fun vs H Q E h => by obtain ⟨_, _, rfl, _⟩ := h; rfl) (fun cdv A outer s H vs Q E hr h => ?_)
  obtain ⟨p, f, rfl, ⟨F, dx, L, z, hm, hp1⟩, qq⟩ := h
  have nd := sc_DaySet___neg__.nd
  refine ⟨_, (pss_one (ps_ret (pe_mk M_DaySet hr (by decide) rfl (pa_cons (pe_revS (pe_fld (pv 0) rfl)) (pa_cons (pe_op op_sub pe_int (pe_fld (pv 0) rfl)) (pa_cons (pe_revS (pe_fld (pv 0) rfl)) (pa_cons (pe_revS (pe_fld (pv 0) rfl)) pa_nil))))))), ?_⟩
  refine ⟨_, rfl, _, _, _, _, _, rfl, hp1, D.cl, D.n_right, f_right F, _, rfl, szl z.r, _, rfl, _, _, _, _, _, rfl, hp1, D.cl, D.n_high, f_high F, _, _, rfl, rfl, _, rfl, _, _, _, _, _, rfl, hp1, D.cl, D.n_middle, f_middle F, _, rfl, szl z.m, _, rfl, _, _, _, _, _, rfl, hp1, D.cl, D.n_left, f_left F, _, rfl, szl z.l, ?_⟩
  rw [rowS_rev, rowS_rev, rowS_rev]
  refine make_day F.r.reverse (1 - F.high) F.m.reverse F.l.reverse _ ?_ ?_ ?_ ?_ ?_ (fun n => by rw [frm_neg F L.l0 L.r0]; exact hm _) qq
  · intro e; exact L.r0 (List.reverse_eq_nil_iff.mp e)
  · intro e; exact L.l0 (List.reverse_eq_nil_iff.mp e)
  · rw [List.length_reverse]; exact z.r
  · rw [List.length_reverse]; exact z.m
  · rw [List.length_reverse]; exact z.l
/-! ### none, every, start -/
def sp_kst (C : Addr) (t : Bool) : Sp := fun vs H Q _ => vs = [.ref C] ∧ ∀ r H', Le H H' → IsDay C H' r (fun _ => t) → H r = none → Q (.ref r) H'
theorem mem_kst (t : Bool) (n : Int) : (Frm.mk [t] 0 [] [t]).mem n = t := by
  have c1 : ∀ z, cyc [t] z = t := fun z => by unfold cyc; show [t].getD (z % (1 : Int)).toNat false = t; rw [Int.emod_one]; rfl
  unfold Frm.mem
  simp only [c1]
  split
  · rfl
  · rw [if_pos (by rename_i h; unfold Frm.high at h; simp only [List.length_nil] at h; omega)]
theorem q_none {C : Addr} (T : Txt K mg) (D : DSC K mg C) (M : ClmOf K C "none" "DaySet.none" s_DaySet_none P_DaySet_none) (M_DaySet : Mak P w K mg base 4 "DaySet" C (sp_init C) []) : CMt P w K mg base 6 C "none" (sp_kst C false) := by
  obtain ⟨mc, pp, g, fd, r, cm, F, B⟩ := M
  refine cmt0 r cm F B sc_DaySet_none (fun vs H Q E h => by obtain ⟨rfl, _⟩ := h; rfl) (fun cdv A outer s H vs Q E hr h => ?_)
  obtain ⟨rfl, qq⟩ := h
  have nd := sc_DaySet_none.nd
  refine ⟨_, (pss_one (ps_ret (pe_mk M_DaySet hr (by decide) rfl (pa_cons pe_str (pa_cons pe_int (pa_cons pe_str (pa_cons pe_str pa_nil))))))), ?_⟩
  have := make_day (C := C) (H := H) (Q := Q) (E := C8.E0) [false] 0 [] [false] (fun _ => false) (by simp) (by simp) (by decide) (by decide) (by decide) (mem_kst false) qq
  rw [rowS_0, rowS_nil] at this
  exact this
/-! ### <= -/
def sp_le (C : Addr) : Sp := fun vs H Q _ => ∃ (p q : Addr) (f g : Int → Bool) (c b : Int), vs = [.ref p, .ref q] ∧ IsDay C H p f ∧ IsDay C H q g ∧ Ok f c b ∧ Ok g c b ∧ ∀ e H', (e = true ↔ ∀ n, f n = true → g n = true) → Le H H' → Q (.bl e) H'
theorem q_le {C : Addr} (T : Txt K mg) (D : DSC K mg C) (M : MetOf K C "__le__" "DaySet.__le__" s_DaySet___le__ P_DaySet___le__) (Q_DaySet___sub__ : Met P w K mg base 7 C "__sub__" (sp_bin C fun a b => a && !b) []) (Q_DaySet___bool__ : Met P w K mg base 1 C "__bool__" (sp_bool C) []) : Met P w K mg base 8 C "__le__" (sp_le C) [] := by
  obtain ⟨g, fd, M, F, B⟩ := M
  refine met0 D.cl M F B sc_DaySet___le__ (fun vs H Q E h => by obtain ⟨_, _, _, _, _, _, rfl, _⟩ := h; rfl) (fun cdv A outer s H vs Q E hr h => ?_)
  obtain ⟨p, q, f, g, c, b, rfl, hp, hq, o1, o2, qq⟩ := h
  have nd := sc_DaySet___le__.nd
  refine ⟨_, (pss_one (ps_ret (pe_not_own Q_DaySet___bool__ hr (by decide) (pe_op (op_ownM D.sf Q_DaySet___sub__ hr (by decide)) (pv 0) (pv 1))))), ?_⟩
  obtain ⟨F, dx, L, z, hm, hp1⟩ := id hp
  obtain ⟨G, dy, LG, zG, hmG, hq1⟩ := id hq
  refine ⟨_, rfl, _, rfl, _, _, _, _, _, _, rfl, rfl, hp1, hq1, p, q, f, g, c, b, rfl, hp, hq, o1, o2, fun r H' le hd h0 => ?_⟩
  obtain ⟨G2, dz, LG2, zG2, hmG2, hr1⟩ := id hd
  refine ⟨_, _, _, rfl, hr1, r, _, rfl, hd, fun e he => ⟨e, rfl, qq _ H' ?_ le⟩⟩
  cases e with
  | false =>
    constructor
    · intro _ n hn
      cases hg : g n with
      | true => rfl
      | false =>
        have : false = true := he.mpr ⟨n, by show (f n && !g n) = true; rw [hn, hg]; rfl⟩
        cases this
    · intro _; rfl
  | true =>
    constructor
    · intro h; cases h
    · intro h
      obtain ⟨n, hn⟩ := he.mp rfl
      have hn' : (f n && !g n) = true := hn
      rw [Bool.and_eq_true] at hn'
      have := h n hn'.1
      rw [this] at hn'
      exact absurd hn'.2 (by decide)
end
end Od
end
section
set_option Elab.async false
set_option linter.all false
set_option maxRecDepth 100000
set_option maxHeartbeats 2000000
set_option autoImplicit false
namespace Od
open PySem PySem.Spec PyProof.Rows L2
theorem Room.u1 {k : Nat} {A : Around} (r : Room k A) : A.units + 1 < cLine := by have := r.units; omega
/-- list(o.values()) -/
def tListVals (td : TE) : TE := fun σ H Q => td σ H fun x H1 => ∃ a kvs, x = V.ref a ∧ H1 a = some (.dK kvs) ∧ ∀ q, H1 q = none → Q (.ref q) (upd H1 q (.lst (kvs.map (·.2))))
theorem pe_listVals {X : Cx} {o : Expr} {p pos apos mpos : Pos} {td : TE} (hc : X.calm = true) (hg : Gl X "list") (hm : X.mg "list" = none) (hd : PE X o td) (hbase : attributeBase o "values" X.env (eval o X.env) = eval o X.env := by rfl) (hline : (apos.endLine == mpos.line) = true := by rfl)
    (na : starEach [Expr.Call (.Attribute o "values" apos) [] [] mpos] X.env = (false, eval (Expr.Call (.Attribute o "values" apos) [] [] mpos) X.env) :: starEach [] X.env := by rfl) :
    PE X (.Call (.Name "list" p) [.Call (.Attribute o "values" apos) [] [] mpos] [] pos) (tListVals td) := by
  refine ⟨fun pins s σ H Q I h => ?_⟩
  refine Call_ (ld_blt I hg hm boot_list (PyProof.Rows.callWith_type1 (args_cons (wpAny_Call_method0_late hbase hline (thn (hd.run pins s σ H _ I h) fun v s1 ⟨x, H1, I1, r1, a, kvs, ex, ha, q⟩ => ?_)) na) na))
  subst ex
  obtain rfl : v = Value.ref a := r1
  obtain ⟨hz, hsys, vs, rel, dof⟩ := (show ObjOk X.prog X.w H1 s1.heap a (.dK kvs) from I1.hok a _ ha)
  obtain ⟨ep, dat⟩ := dof.dictAt
  have dat' := dat
  obtain ⟨ob, es, ho, ex, hdat, hko, hpr, hnd⟩ := dat'
  refine ⟨"dict", "dict.values", F.plainAttrs_dict, F.slot_dict_values, F.type_dict_values, ⟨ob, ho, ex.1⟩, fun b e => ?_, Calls.callWith_builtin rfl (PySem.evalArgs_none ?_)⟩
  · cases e
    exact ⟨ob, ho, ex.2.1⟩
  refine call_meetsIn F.slot_dict_values ⟨ob, ho, ex.1⟩ F.entry_dict_values (F.args_dict_values_1 _) (meets_dict_values (mixKind X.prog X.w) a hsys) ⟨⟨vs, dof⟩, ?_⟩
  refine args_nil ?_
  have k1 : ∀ b u, s1.heap.get? b = some u → (s1.heap.push { cls := .type "dict_values", data := .fields #[.ref a] }).get? b = some u := fun b u e => Heap.get?_push_of_some _ e
  have dat1 : (s1.heap.push { cls := .type "dict_values", data := .fields #[.ref a] }).DictAt (mixKind X.prog X.w) a vs ep := dat.keep k1
  have hl : kvs.length = vs.length := Paired.length rel
  have I2 : Inv X pins σ H1 { s1 with heap := s1.heap.push { cls := .type "dict_values", data := .fields #[.ref a] } } := I1.kept (t' := s1.toks) k1
  refine PySem.W.kdl_call (PySem.W.kdl_values (knd := mixKind X.prog X.w) (kvs := vs) (ep := ep)) (I2.ok.hd hc) ⟨⟨_, Heap.get?_push_size _ rfl, rfl, rfl⟩, dat1⟩ (by rw [← hl]; exact hz) fun h' tk acc' c' hkeep hS hacc => ?_
  refine ⟨.ref _, upd H1 _ (.lst (kvs.map (·.2))), I2.laid hkeep (Nat.le_refl _) (show ObjOk X.prog X.w _ _ _ (.lst (kvs.map (·.2))) from ⟨?_, acc'.toList, c', ?_, ?_⟩), rfl, q _ (I2.hok.fresh (Nat.le_refl _))⟩
  · rw [List.length_map]; exact hz
  · refine vals_of_at (by have := hacc.1; rw [List.length_map, show acc'.toList.length = acc'.size from Array.length_toList]; omega) fun j x w h1 h2 => ?_
    obtain ⟨k, hky⟩ := hacc.2 j w (by rw [← Array.getElem?_toList]; exact h2)
    obtain ⟨y, h3, h4⟩ := KV.at' rel hky
    rw [List.getElem?_map, h3] at h1
    have : y = x := by simpa using h1
    rw [← this]
    exact h4
  · rw [Array.toArray_toList]; exact hS
/-- .. the written part told, so that a comprehension's block may use them -/
theorem pe_fldK {X : Cx} {K : PySem.W.Frag} {e : Expr} {f : Str} {ta : TE} {pos : Pos} (hK : X.K = K) (h : PE X (.Attribute e f pos) (tFld X.K ta f)) : PE X (.Attribute e f pos) (tFld K ta f) := by
  subst hK
  exact h
theorem pi_listK {X : Cx} {K : PySem.W.Frag} {tg l : Expr} {tl : TE} (hK : X.K = K) (hl : PE X l tl) : PI X tg l (iList K tl) := by
  subst hK
  exact pi_list hl
end Od
end
section
set_option Elab.async false
set_option linter.all false
set_option maxRecDepth 100000
set_option maxHeartbeats 2000000
set_option autoImplicit false
/-! a list compared with an empty one, whatever its items; with one of another length -/
namespace Od
open PySem PySem.Spec PyProof.Rows L2 PySem.SeqAt
section
variable {X : Cx}
def rEqE (K : PySem.W.Frag) (neg : Bool) : R2 := fun x y H Q => ∃ (a b : Addr) (xs ys : List V), x = .ref a ∧ y = .ref b ∧ SqL K H a xs ∧ SqL K H b ys ∧ (xs = [] ∨ ys = []) ∧ Q (.bl (if neg then !decide (xs.length = ys.length) else decide (xs.length = ys.length))) H
theorem isList_of {pins : List (Addr × Obj)} {σ : L2.St} {H : Hp} {s : Shared} {a : Addr} {xs : List V} (I : Inv X pins σ H s) (h : SqL X.K H a xs) : ∃ its : List Value, s.heap.IsList a its.toArray ∧ its.length = xs.length := by
  obtain ⟨its, rv, ⟨o, n, ho, hc, hdn, hd⟩, _⟩ := I.list h
  exact ⟨its, ⟨o, ho, hc, n, hd⟩, rv.length.symm⟩
theorem op_eqE (hu : X.A.units + 64 < cLine) : OpR X (compareOp .Eq) (rEqE X.K false) := by
  intro pins s σ H x y v u Q I rx ry h
  obtain ⟨a, b, xs, ys, rfl, rfl, ha, hb, hxy, q⟩ := h
  obtain rfl : v = Value.ref a := rx
  obtain rfl : u = Value.ref b := ry
  obtain ⟨is, la, ea⟩ := isList_of I ha
  obtain ⟨js, lb, eb⟩ := isList_of I hb
  by_cases c : xs.length = ys.length
  · have hx : xs.length = 0 := by rcases hxy with e | e <;> simp [e] at c ⊢ <;> simp [c]
    have hn : is.toArray.size = 0 := by rw [List.size_toArray, ea, hx]
    refine RcAt.lists (e := fun _ => true) la lb (by rw [List.size_toArray, List.size_toArray]; omega) (by omega) (fun j h1 _ => absurd h1 (by omega)) X.prog X.w _ _ ?_
    refine ⟨.bl _, H, I, ?_, q⟩
    rw [decide_eq_true c, hn]
    rfl
  · refine RcAt.lists_lengths la lb (by rw [List.size_toArray, List.size_toArray, ea, eb]; simpa using c) (by omega) X.prog X.w _ _ ?_
    refine ⟨.bl _, H, I, ?_, q⟩
    rw [decide_eq_false c]
    rfl
theorem op_neE (hu : X.A.units + 64 < cLine) : OpR X (compareOp .NotEq) (rEqE X.K true) := by
  intro pins s σ H x y v u Q I rx ry h
  obtain ⟨a, b, xs, ys, rfl, rfl, ha, hb, hxy, q⟩ := h
  obtain rfl : v = Value.ref a := rx
  obtain rfl : u = Value.ref b := ry
  obtain ⟨is, la, ea⟩ := isList_of I ha
  obtain ⟨js, lb, eb⟩ := isList_of I hb
  by_cases c : xs.length = ys.length
  · have hx : xs.length = 0 := by rcases hxy with e | e <;> simp [e] at c ⊢ <;> simp [c]
    have hn : is.toArray.size = 0 := by rw [List.size_toArray, ea, hx]
    refine RcNeAt.lists (e := fun _ => true) la lb (by rw [List.size_toArray, List.size_toArray]; omega) (by omega) (fun j h1 _ => absurd h1 (by omega)) X.prog X.w _ _ ?_
    refine ⟨.bl _, H, I, ?_, q⟩
    rw [decide_eq_true c, hn]
    rfl
  · refine RcNeAt.lists_lengths la lb (by rw [List.size_toArray, List.size_toArray, ea, eb]; simpa using c) (by omega) X.prog X.w _ _ ?_
    refine ⟨.bl _, H, I, ?_, q⟩
    rw [decide_eq_false c]
    rfl
/-- a dict compared with the empty one -/
def rNeDE : R2 := fun x y H Q => ∃ (a b : Addr) (ks : List (Key × V)), x = .ref a ∧ y = .ref b ∧ H a = some (.dK ks) ∧ H b = some (.dK []) ∧ Q (.bl (!decide (ks.length = 0))) H
theorem op_neDE (hu : X.A.units < cLine) : OpR X (compareOp .NotEq) rNeDE := by
  intro pins s σ H x y v u Q I rx ry h
  obtain ⟨a, b, ks, rfl, rfl, ea, eb, q⟩ := h
  obtain rfl : v = Value.ref a := rx
  obtain rfl : u = Value.ref b := ry
  obtain ⟨_, ya, va, ra, da⟩ := (show ObjOk X.prog X.w H s.heap a (.dK ks) from I.hok a _ ea)
  obtain ⟨_, yb, vb, rb, db⟩ := (show ObjOk X.prog X.w H s.heap b (.dK []) from I.hok b _ eb)
  have hl : va.length = ks.length := ra.length.symm
  have hb : vb.length = 0 := rb.length.symm
  refine PySem.W.keq_ne (knd := mixKind X.prog X.w) (r := true) ya yb da db hu (fun e => hits_all rb ra fun p hp => ?_) ?_
  · have : ks.length = 0 := by omega
    rw [List.eq_nil_of_length_eq_zero this] at hp
    cases hp
  · refine ⟨.bl _, H, I, ?_, q⟩
    show Value.bool _ = _
    rw [hl, hb, Bool.and_true]
    rfl
/-- a if t else b as a test -/
def tIfT (t a b : TT) : TT := fun σ H Q => t σ H fun c H1 => if c = true then a σ H1 Q else b σ H1 Q
theorem pt_ifE {c a b : Expr} {pos : Pos} {t ta tb : TT} (hc : PT X c t) (ha : PT X a ta) (hb : PT X b tb) : PT X (.IfExp c a b pos) (tIfT t ta tb) := by
  refine ⟨fun pins s σ H Q I h => ?_⟩
  have e : isTrue (.IfExp c a b pos) X.env (eval (.IfExp c a b pos) X.env) = (do if ← isTrue c X.env (eval c X.env) then isTrue a X.env (eval a X.env) else isTrue b X.env (eval b X.env)) := by
    first | rfl | simp [isTrue]
  rw [e]
  refine wpAny_bind (thn (hc.run pins s σ H _ I h) fun d s1 ⟨H1, I1, q1⟩ => ?_)
  cases d with
  | true => exact ha.run pins s1 σ H1 Q I1 q1
  | false => exact hb.run pins s1 σ H1 Q I1 q1
end
end Od
end
section
set_option Elab.async false
set_option linter.all false
set_option maxRecDepth 100000
set_option maxHeartbeats 2000000
set_option autoImplicit false
/-! the law's pen -/
namespace Od
open PySem PySem.Spec PyProof.Rows L2 C8 Day
abbrev s__law_pen : Stmt := top 29
abbrev N__law_pen : List Str := ["_law_script"]
abbrev P__law_pen : List Str := ["_law_script"]
theorem sc__law_pen : FnScope N__law_pen P__law_pen (C8.fnScope s__law_pen) := fnScope_by (by decide +kernel)
abbrev s__law_draw : Stmt := top 30
abbrev N__law_draw : List Str := ["_law_pen_here", "_law_span", "_law_digit", "_law_turn", "_law_cell", "_law_mixed"]
abbrev P__law_draw : List Str := ["_law_pen_here", "_law_span"]
theorem sc__law_draw : FnScope N__law_draw P__law_draw (C8.fnScope s__law_draw) := fnScope_by (by decide +kernel)
def penV (dl : Addr) (t l : Int) : List (Key × V) := [(.inr "cells", .ref dl), (.inr "turn", .int t), (.inr "left", .int l)]
theorem pen_cells (dl : Addr) (t l : Int) : valV (penV dl t l) (.inr "cells") = some (.ref dl) := by rfl
theorem pen_turn (dl : Addr) (t l : Int) : valV (penV dl t l) (.inr "turn") = some (.int t) := by rfl
theorem pen_left (dl : Addr) (t l : Int) : valV (penV dl t l) (.inr "left") = some (.int l) := by rfl
theorem put_turn (dl : Addr) (t l x : Int) : putK (penV dl t l) (.inr "turn") (.int x) = penV dl x l := by rfl
theorem put_left (dl : Addr) (t l x : Int) : putK (penV dl t l) (.inr "left") (.int x) = penV dl t x := by rfl
/-- the pen at d: at most n numbers have been taken -/
def IsPen (H : Hp) (d dl : Addr) (n : Int) : Prop := ∃ (cells : List Int) (t l : Int), H d = some (.dK (penV dl t l)) ∧ H dl = some (.lst (cells.map V.int)) ∧ cells.length ≤ 63 ∧ 0 ≤ t ∧ t ≤ n
theorem IsPen.le {H H' : Hp} {d dl : Addr} {n : Int} (p : IsPen H d dl n) (l : Le H H') : IsPen H' d dl n := by
  obtain ⟨cells, t, x, h1, h2, h3⟩ := p
  exact ⟨cells, t, x, l _ _ h1, l _ _ h2, h3⟩
theorem IsPen.lx {H H' : Hp} {d dl D : Addr} {n : Int} (p : IsPen H d dl n) (l : LeX D H H') (h1 : d ≠ D) (h2 : dl ≠ D) : IsPen H' d dl n := by
  obtain ⟨cells, t, x, e1, e2, h3⟩ := p
  exact ⟨cells, t, x, l _ _ h1 e1, l _ _ h2 e2, h3⟩
theorem IsPen.mono {H : Hp} {d dl : Addr} {n m : Int} (p : IsPen H d dl n) (h : n ≤ m) : IsPen H d dl m := by
  obtain ⟨cells, t, x, h1, h2, h3, h4, h5⟩ := p
  exact ⟨cells, t, x, h1, h2, h3, h4, by omega⟩
theorem IsPen.dict {H : Hp} {d dl : Addr} {n : Int} (p : IsPen H d dl n) : ∃ kvs, H d = some (.dK kvs) := by
  obtain ⟨_, _, _, h, _⟩ := p
  exact ⟨_, h⟩
theorem sqL_le {K : PySem.W.Frag} {H H' : Hp} {a : Addr} {xs : List V} (h : SqL K H a xs) (l : Le H H') : SqL K H' a xs := by
  rcases h with (h | ⟨o, h⟩) | h
  · exact .inl (.inl (l _ _ h))
  · exact .inl (.inr ⟨o, l _ _ h⟩)
  · exact .inr h
theorem dget_of {H : Hp} {a : Addr} {kvs : List (Key × V)} {k : Key} {v : V} (e : H a = some (.dK kvs)) (h : valV kvs k = some v) : DGet H a (kV k) (some v) := h ▸ .k e
section
variable {P : Program} {w : World} {K : PySem.W.Frag} {mg : Str → Option Value} {base : Heap}
def sp_pen : Sp := fun vs H Q _ => ∃ (a : Addr) (xs : List Int), vs = [.ref a] ∧ SqL K H a (xs.map V.int) ∧ xs.length ≤ 63 ∧ ∀ d dl H', Le H H' → H d = none → H dl = none → IsPen H' d dl 0 → Q (.ref d) H'
theorem cut63 (xs : List Int) (lo hi : Option Int) : ∃ ys : List Int, cutV (xs.map V.int) lo hi = ys.map V.int ∧ ys.length ≤ xs.length := by
  have h := cutV_length (xs.map V.int) lo hi
  rw [List.length_map] at h
  unfold cutV at h ⊢
  rw [← List.map_drop, ← List.map_take] at h ⊢
  rw [List.length_map] at h
  exact ⟨_, rfl, h⟩
theorem c_pen (T : Txt K mg) (F : DefOf K mg "_law_pen" s__law_pen P__law_pen) : Cal P w K mg base 1 "_law_pen" (sp_pen (K := K)) [] := by
  obtain ⟨f, fd, F, B⟩ := F
  refine cal0 F B .nil sc__law_pen (fun vs H Q E h => by obtain ⟨_, _, rfl, _⟩ := h; rfl) (fun cdv A outer s H vs Q E hr h => ?_)
  obtain ⟨a, xs, rfl, hs, hx, q⟩ := h
  have nd := sc__law_pen.nd
  refine ⟨_, (pss_one (ps_ret (pe_disp (pps_cons pe_str (pe_callTy call_list_of (by rfl) T.b_list (by decide +kernel) (pa_cons (pe_slice sl_list (pv 0) po_none (po_some pe_int)) pa_nil)) (pps_cons pe_str pe_int (pps_cons pe_str pe_int pps_nil))) (by rfl) (by rfl) (by simp) (by decide)))), ?_⟩
  intro d hd
  have hs' : SqL K (upd H d (.dK [])) a (xs.map V.int) := sqL_le hs (Le.new hd)
  obtain ⟨ys, hy, hl⟩ := cut63 xs none (some 63)
  refine ⟨_, rfl, _, rfl, a, _, rfl, hs', fun p1 n1 => ?_⟩
  rw [hy]
  refine ⟨p1, _, rfl, .inl (.of upd_self), fun p2 n2 => ?_⟩
  have nd2 : p2 ≠ d := fun c => by
    rw [c] at n2
    have := (Le.new (o := .lst (ys.map V.int)) n1) d _ (upd_self (H := H) (p := d) (o := .dK []))
    rw [n2] at this
    cases this
  have ed : upd (upd (upd H d (.dK [])) p1 (.lst (ys.map V.int))) p2 (.lst (ys.map V.int)) d = some (.dK []) := ((Le.new n1).trans (Le.new n2)) d _ upd_self
  refine ⟨ed, penV p2 0 0, rfl, (show 3 ≤ 15 by decide), ?_⟩
  have lH : Le H (upd (upd (upd (upd H d (.dK [])) p1 (.lst (ys.map V.int))) p2 (.lst (ys.map V.int))) d (.dK (mergeK [] (penV p2 0 0)))) := (((Le.new hd).trans (Le.new n1)).trans (Le.new n2)).upd hd
  refine q d p2 _ lH hd (((Le.new (o := .dK []) hd).trans (Le.new (o := .lst (ys.map V.int)) n1)).none n2) ⟨ys, 0, 0, upd_self.trans rfl, by rw [upd_ne nd2, upd_self], by omega, by decide, by decide⟩
def sp_draw : Sp := fun vs H Q _ => ∃ (d dl : Addr) (span n : Int), vs = [.ref d, .int span] ∧ IsPen H d dl n ∧ n ≤ 1000000000 ∧ 0 < span ∧ span.natAbs.log2 < 9000 ∧ ∀ r H', LeX d H H' → IsPen H' d dl (n + 1) → 0 ≤ r → r < span → Q (.int r) H'
theorem c_draw (T : Txt K mg) (F : DefOf K mg "_law_draw" s__law_draw P__law_draw) : Cal P w K mg base 1 "_law_draw" sp_draw [] := by
  obtain ⟨f, fd, F, B⟩ := F
  refine cal0 F B .nil sc__law_draw (fun vs H Q E h => by obtain ⟨_, _, _, _, rfl, _⟩ := h; rfl) (fun cdv A outer s H vs Q E hr h => ?_)
  obtain ⟨d, dl, span, n, rfl, ⟨cells, t, l, e1, e2, h3, h4, h5⟩, n1, s0, s1, q⟩ := h
  have nd := sc__law_draw.nd
  have ndl : dl ≠ d := fun c => by rw [c, e1] at e2; cases e2
  refine ⟨_, (C8.pss_cut (ps_if (pt_cmpR op_gt (pe_dget (Room.u1 hr) (pv 0) pe_str (fun _ _ => rfl)) pe_int (nomark _)) (pss_cons (ps_set (i := 2) nd rfl (Or.inl rfl) (pe_op op_mod (pe_callTy call_int1 (by rfl) T.b_int (by decide +kernel) (pa_cons (pe_dget (Room.u1 hr) (pv 0) pe_str (fun _ _ => rfl)) pa_nil)) (pv 1)))
      (pss_cons (ps_dput (Room.u1 hr) (pv 0) pe_str (pe_op op_fdivW (pe_dget (Room.u1 hr) (pv 0) pe_str (fun _ _ => rfl)) (pv 1)) rfl)
      (pss_one (ps_ret (pv 2))))) pss_nil)
      (pss_cons (ps_set (i := 3) nd rfl (Or.inl rfl) (pe_dget (Room.u1 hr) (pv 0) pe_str (fun _ _ => rfl)))
      (pss_cons (ps_dput (Room.u1 hr) (pv 0) pe_str (pe_op op_add (pv 3) pe_int) rfl)
      (pss_cons (ps_set (i := 4) nd rfl (Or.inl rfl) (pe_op op_add (pe_op op_mul pe_int (pv 3)) pe_int))
      (C8.pss_cut (ps_if (pt_cmpR (op_neE hr.units) (pe_dget (Room.u1 hr) (pv 0) pe_str (fun _ _ => rfl)) (pe_lst pa_nil) (nomark _)) (pss_one (ps_set (i := 4) nd rfl (Or.inl rfl) (pe_ix ix_list (pe_dget (Room.u1 hr) (pv 0) pe_str (fun _ _ => rfl)) (pe_op op_mod (pe_callTy call_int1 (by rfl) T.b_int (by decide +kernel) (pa_cons (pv 3) pa_nil)) (pe_callB call_len_seq (by rfl) T.b_len (by decide +kernel) (pa_cons (pe_dget (Room.u1 hr) (pv 0) pe_str (fun _ _ => rfl)) pa_nil))) (fun _ _ => rfl)))) pss_nil)
      (C8.pss_cut (ps_if (PW.pt (pw_and (pt_cmpR op_lt (pv 3) (pe_callB call_len_seq (by rfl) T.b_len (by decide +kernel) (pa_cons (pe_dget (Room.u1 hr) (pv 0) pe_str (fun _ _ => rfl)) pa_nil)) (nomark _)) (pw_and1 (pt_cmpR op_ge (pe_callB call_abs (by rfl) T.b_abs (by decide +kernel) (pa_cons (pv 4) pa_nil)) (pe_op op_pow pe_int pe_int) (nomark _))))) (pss_cons (ps_dput (Room.u1 hr) (pv 0) pe_str (pe_op op_fdivW (pe_op op_sub (pe_callB call_abs (by rfl) T.b_abs (by decide +kernel) (pa_cons (pv 4) pa_nil)) (pe_op op_pow pe_int pe_int)) (pv 1)) rfl)
      (pss_one (ps_ret (pe_op op_mod (pe_callTy call_int1 (by rfl) T.b_int (by decide +kernel) (pa_cons (pe_op op_sub (pe_callB call_abs (by rfl) T.b_abs (by decide +kernel) (pa_cons (pv 4) pa_nil)) (pe_op op_pow pe_int pe_int)) pa_nil)) (pv 1))))) pss_nil)
      (pss_cons (ps_set (i := 5) nd rfl (Or.inl rfl) (pe_op op_mul (pe_op op_mod (pe_callTy call_int1 (by rfl) T.b_int (by decide +kernel) (pa_cons (pv 4) pa_nil)) pe_int) pe_int))
      (pss_cons (ps_set (i := 5) nd rfl (Or.inl rfl) (pe_op op_mod (pe_callTy call_int1 (by rfl) T.b_int (by decide +kernel) (pa_cons (pe_op op_add (pe_op op_add (pv 5) (pe_op op_mul (pv 3) (pe_op op_add (pe_op op_mul (pv 3) pe_int) pe_int))) pe_int) pa_nil)) pe_int))
      (pss_cons (ps_set (i := 5) nd rfl (Or.inl rfl) (pe_op op_mod (pe_callTy call_int1 (by rfl) T.b_int (by decide +kernel) (pa_cons (pe_op op_mul (pv 5) (pe_op op_add (pv 5) pe_int)) pa_nil)) pe_int))
      (pss_cons (ps_set (i := 5) nd rfl (Or.inl rfl) (pe_op op_mod (pe_callTy call_int1 (by rfl) T.b_int (by decide +kernel) (pa_cons (pe_op op_add (pe_op op_add (pe_op op_mul (pv 5) (pv 5)) (pe_op op_mul pe_int (pv 5))) (pe_op op_mul pe_int (pv 3))) pa_nil)) pe_int))
      (pss_one (ps_ret (pe_op op_mod (pe_callTy call_int1 (by rfl) T.b_int (by decide +kernel) (pa_cons (pe_op op_fdivW (pe_op op_mod (pe_callTy call_int1 (by rfl) T.b_int (by decide +kernel) (pa_cons (pe_op op_mul (pv 5) (pe_op op_add (pv 5) pe_int)) pa_nil)) pe_int) pe_int) pa_nil)) (pv 1)))))))))))))), ?_⟩
  have lx : ∀ (H0 : Hp) o, LeX d H H0 → LeX d H (upd H0 d o) := fun H0 o l => l.upd
  have m0 : ∀ x : Int, 0 ≤ x % span ∧ x % span < span := fun x => ⟨Int.emod_nonneg x (by omega), Int.emod_lt_of_pos x s0⟩
  refine ⟨fun σ' H' => H' = H ∧ σ' = [some (.ref d), some (.int span), none, none, none, none], ?_, ?_⟩
  rotate_left
  · rintro σ' H' ⟨eH, rfl⟩
    have eH := eH.symm
    subst eH
    refine ⟨_, rfl, d, _, rfl, dget_of e1 (pen_turn _ _ _), ?_⟩
    refine ⟨_, rfl, _, _, rfl, rfl, _, rfl, d, _, rfl, .k (k := .inr "turn") e1 (le_szl 4 (by decide)), ?_⟩
    have E1 : upd H d (.dK (putK (penV dl t l) (.inr "turn") (.int (t + 1)))) d = some (.dK (penV dl (t + 1) l)) := by rw [upd_self, put_turn]
    have E2 : upd H d (.dK (putK (penV dl t l) (.inr "turn") (.int (t + 1)))) dl = some (.lst (cells.map V.int)) := by rw [upd_ne ndl]; exact e2
    have L1 : LeX d H (upd H d (.dK (putK (penV dl t l) (.inr "turn") (.int (t + 1))))) := lx _ _ Le.refl.x
    generalize upd H d (.dK (putK (penV dl t l) (.inr "turn") (.int (t + 1)))) = H1 at *
    refine ⟨_, rfl, _, _, rfl, rfl, .inl ⟨by decide, by decide⟩, _, _, rfl, rfl, ?_⟩
    -- the cell
    refine ⟨fun σ' H' => Le H1 H' ∧ ∃ (cell : Int) (x : Option V), σ' = [some (.ref d), some (.int span), x, some (.int t), some (.int cell), none], ?_, ?_⟩
    · refine ⟨_, rfl, d, _, rfl, dget_of E1 (pen_cells _ _ _), Nat.zero_le _, fun q1 n1 => ?_⟩
      have E3 := (Le.new (o := .lst []) n1) _ _ E2
      have E4 := (Le.new (o := .lst []) n1) _ _ E1
      refine ⟨dl, q1, _, _, rfl, rfl, .of E3, .of upd_self, .inr rfl, _, rfl, ?_⟩
      refine ite2 (fun c => ?_) (fun c => ?_)
      · have hne : cells ≠ [] := fun e => by rw [e] at c; cases c
        have hpos := List.length_pos_iff.mpr hne
        have c0 : (0 : Int) < ((cells.map V.int).length : Int) := by rw [List.length_map]; omega
        have b1 := Int.emod_nonneg t (show ((cells.map V.int).length : Int) ≠ 0 by omega)
        have b2 := Int.emod_lt_of_pos t c0
        have hi : (t % ((cells.map V.int).length : Int)).toNat < cells.length := by rw [List.length_map] at *; omega
        refine ⟨_, rfl, d, _, rfl, dget_of E4 (pen_cells _ _ _), _, rfl, .inl ⟨_, rfl, _, rfl, d, _, rfl, dget_of E4 (pen_cells _ _ _), _, _, rfl, .inl (.of E3), _, _, rfl, rfl, c0, ?_⟩⟩
        refine ⟨_, _, _, .int cells[(t % ((cells.map V.int).length : Int)).toNat], rfl, rfl, .of E3, ?_, Le.new n1, _, _, rfl⟩
        have := atI_nat (xs := cells.map V.int) (j := (t % ((cells.map V.int).length : Int)).toNat) (v := .int cells[(t % ((cells.map V.int).length : Int)).toNat]) (by rw [List.getElem?_map, List.getElem?_eq_getElem hi]; rfl)
        rwa [show (((t % ((cells.map V.int).length : Int)).toNat : Nat) : Int) = t % ((cells.map V.int).length : Int) by omega] at this
      · exact ⟨Le.new n1, _, _, rfl⟩
    rintro σ' H2 ⟨le, cell, x, rfl⟩
    have E5 := le _ _ E1
    have E6 := le _ _ E2
    have L2 : LeX d H H2 := fun a o h1 h2 => le _ _ (L1 a o h1 h2)
    have plain : IsPen H2 d dl (n + 1) := ⟨cells, t + 1, l, E5, E6, h3, by omega, by omega⟩
    refine ⟨fun σ' H' => H' = H2 ∧ σ' = [some (.ref d), some (.int span), x, some (.int t), some (.int cell), none], ?_, ?_⟩
    · refine ⟨_, rfl, _, rfl, d, _, rfl, dget_of E5 (pen_cells _ _ _), _, _, rfl, .inl (.of E6), _, _, rfl, rfl, _, rfl, ?_⟩
      refine ite2 (fun c => ?_) (fun c => ⟨rfl, rfl⟩)
      refine ⟨_, rfl, _, rfl, _, _, rfl, rfl, ⟨by decide, by decide, by decide⟩, _, _, rfl, rfl, _, rfl, ?_⟩
      refine ite2 (fun c => ?_) (fun c => ⟨rfl, rfl⟩)
      refine ⟨_, rfl, _, rfl, _, _, rfl, rfl, ⟨by decide, by decide, by decide⟩, _, _, rfl, rfl, _, rfl, _, _, rfl, rfl, ⟨s0, s1⟩, _, rfl, d, _, rfl, .k (k := .inr "left") E5 (le_szl 4 (by decide)), ?_⟩
      refine ⟨_, rfl, _, rfl, _, _, rfl, rfl, ⟨by decide, by decide, by decide⟩, _, _, rfl, rfl, .inl ⟨_, rfl, _, rfl, _, _, rfl, rfl, s0, ?_⟩⟩
      refine q _ _ (lx _ _ L2) ?_ (m0 _).1 (m0 _).2
      refine ⟨cells, t + 1, _, (upd_self).trans rfl, by rw [upd_ne ndl]; exact E6, h3, by omega, by omega⟩
    rintro σ' H3 ⟨rfl, rfl⟩
    have p1 : ∀ a b : Int, 0 < b → 0 ≤ a % b ∧ a % b < b := fun a b hb => ⟨Int.emod_nonneg a (by omega), Int.emod_lt_of_pos a hb⟩
    refine ⟨_, rfl, .inl ⟨_, rfl, _, _, rfl, rfl, (show (0 : Int) < 4294967087 by decide), _, _, rfl, rfl, .inr ⟨by decide, by decide⟩, ?_⟩⟩
    refine ⟨_, rfl, _, rfl, _, rfl, _, _, rfl, rfl, .inr ⟨by decide, by decide⟩, _, _, rfl, rfl, _, _, rfl, rfl, .inl ⟨by omega, by omega⟩, _, _, rfl, rfl, _, _, rfl, rfl, .inl ⟨_, rfl, _, _, rfl, rfl, (show (0 : Int) < 4294967029 by decide), ?_⟩⟩
    refine ⟨_, rfl, _, rfl, _, _, rfl, rfl, _, _, rfl, rfl, .inl ?_, .inl ⟨_, rfl, _, _, rfl, rfl, (show (0 : Int) < 4294966997 by decide), ?_⟩⟩
    · have := p1 (cell % 4294967087 * 48611 + t * (t * 27919 + 10601) + 41) 4294967029 (by decide)
      exact ⟨by omega, by omega⟩
    generalize hx : (_ : Int) * (_ + 75013) = xx
    have b1 := p1 xx 4294966997 (by decide)
    refine ⟨_, rfl, _, rfl, _, _, rfl, rfl, .inl ⟨by omega, by omega⟩, _, rfl, _, _, rfl, rfl, .inl ⟨by decide, by decide⟩, _, _, rfl, rfl, _, rfl, _, _, rfl, rfl, .inl ⟨by decide, by decide⟩, _, _, rfl, rfl, .inl ⟨_, rfl, _, _, rfl, rfl, (show (0 : Int) < 4294966981 by decide), ?_⟩⟩
    generalize hy : (_ : Int) + 19 * t = yy
    have b2 := p1 yy 4294966981 (by decide)
    refine ⟨_, rfl, _, rfl, _, _, rfl, rfl, _, _, rfl, rfl, .inl ⟨by omega, by omega⟩, .inl ⟨_, rfl, _, _, rfl, rfl, (show (0 : Int) < 4294966943 by decide), _, _, rfl, rfl, ⟨by decide, by decide⟩, .inl ⟨_, rfl, _, rfl, _, _, rfl, rfl, s0, ?_⟩⟩⟩
    exact q _ _ L2 plain (m0 _).1 (m0 _).2
  refine ⟨_, rfl, d, _, rfl, dget_of e1 (pen_left _ _ _), _, _, rfl, rfl, _, rfl, ?_⟩
  refine ite2 (fun c => ?_) (fun c => ⟨rfl, rfl⟩)
  · refine ⟨_, rfl, d, _, rfl, dget_of e1 (pen_left _ _ _), .inl ⟨_, rfl, _, rfl, _, _, rfl, rfl, s0, ?_⟩⟩
    refine ⟨_, rfl, d, _, rfl, dget_of e1 (pen_left _ _ _), _, rfl, _, _, rfl, rfl, ⟨s0, s1⟩, _, rfl, d, _, rfl, .k (k := .inr "left") e1 (le_szl 4 (by decide)), ?_⟩
    refine ⟨_, rfl, q _ _ (lx _ _ Le.refl.x) ?_ (m0 l).1 (m0 l).2⟩
    refine ⟨cells, t, l / span, ?_, by rw [upd_ne ndl]; exact e2, h3, h4, by omega⟩
    rw [upd_self]
    rfl
end
end Od
namespace Od
open PySem PySem.Spec PyProof.Rows L2 C8 Day
/-- all but two stands -/
def LeXX (d D : Addr) (H H' : Hp) : Prop := ∀ a o, a ≠ d → a ≠ D → H a = some o → H' a = some o
theorem LeX.tr {D : Addr} {H H1 H2 : Hp} (a : LeX D H H1) (b : LeX D H1 H2) : LeX D H H2 := fun x o c h => b x o c (a x o c h)
/-- a comprehension whose turns take numbers from the pen: at most c a turn -/
theorem lc_pen {J : It} {n : Nat} {G : Hp → Prop} {Y : Nat → Hp → V → Hp → Prop} (w : Walk J n G Y) {g : TG} {tt : TT} {te : TE} {vs : List Nat} {σ : L2.St} {H1 : Hp} {D d dl : Addr} {N0 c : Int} {Qd : Hp → Prop} (hD : H1 D = none) (hp : IsPen H1 d dl N0) (hn : n ≤ sizeLine)
    (hG : ∀ H, LeX d H1 H → G H) (hY : ∀ i H x H', Y i H x H' → Le H H') (R : Option V → Hp → Prop) (hR : ∀ r H H', LeXX d D H H' → (∃ acc, H D = some (.lst acc)) → (∃ kvs, H d = some (.dK kvs)) → R r H → R r H')
    (hs : ∀ i x H H', i < n → LeX d H1 H → (∃ acc, H D = some (.lst acc)) → IsPen H' d dl (N0 + (i : Nat) * c) → Y i H x H' → ∀ N : Option V → Hp → Prop, (∀ r H2, LeX d H' H2 → IsPen H2 d dl (N0 + (i : Nat) * c + c) → R r H2 → N r H2) → g x (wipe σ vs) H' fun σ2 H2 => wipe σ2 vs = wipe σ vs ∧ tt σ2 H2 fun b H3 => if b = true then te σ2 H3 fun y H4 => N (some y) H4 else N none H3)
    (hd : ∀ H (rs : List (Option V)), LeX d H1 H → IsPen H d dl (N0 + (n : Nat) * c) → rs.length = n → (∀ r ∈ rs, R r H) → H D = some (.lst (rs.filterMap id)) → Qd H) :
    ∃ W : Nat → Nat → Hp → Prop, (∃ m, W 0 m (upd H1 D (.lst []))) ∧ ∀ i m H, W i m H →
      (J.stop i H ∧ Qd H) ∨ (J.go i H ∧ ∃ Nx : Hp → Prop, (∀ H', Nx H' → ∃ m', m' < m ∧ W (i + 1) m' H') ∧ ∀ x H', J.yld i H x H' → g x (wipe σ vs) H' fun σ2 H2 => wipe σ2 vs = wipe σ vs ∧ tt σ2 H2 fun b H3 =>
        if b = true then te σ2 H3 fun y H4 => ∃ acc, H4 D = some (.lst acc) ∧ acc.length < sizeLine ∧ Nx (upd H4 D (.lst (acc ++ [y]))) else Nx H3) := by
  have hdD : d ≠ D := fun e => by
    obtain ⟨_, _, _, h1, _⟩ := hp
    rw [e, hD] at h1; cases h1
  have hlD : dl ≠ D := fun e => by
    obtain ⟨_, _, _, _, h1, _⟩ := hp
    rw [e, hD] at h1; cases h1
  have one : ∀ i : Nat, N0 + (i : Nat) * c + c = N0 + ((i + 1 : Nat) : Int) * c := fun i => by
    rw [Int.natCast_add, Int.add_mul]; simp; omega
  have penK : ∀ {H : Hp} {m : Int}, IsPen H d dl m → ∃ kvs, H d = some (.dK kvs) := fun h => by
    obtain ⟨_, _, _, h1, _⟩ := h
    exact ⟨_, h1⟩
  refine lc_it w (fun i H => LeX d H1 H ∧ IsPen H d dl (N0 + (i : Nat) * c) ∧ ∃ rs : List (Option V), rs.length = i ∧ (∀ r ∈ rs, R r H) ∧ H D = some (.lst (rs.filterMap id))) ⟨(Le.new hD).x, (hp.le (Le.new hD)).mono (by simp), [], rfl, fun r h => by simp at h, upd_self⟩ (fun i H _ p => hG H p.1) ?_ ?_
  · rintro i x H H' hi ⟨lx, pn, rs, hl, hr, e⟩ hy
    have l2 := hY i H x H' hy
    have eD : H' D = some (.lst (rs.filterMap id)) := l2 D _ e
    have lenf : (rs.filterMap id).length ≤ i := by rw [← hl]; exact List.length_filterMap_le _ _
    have st := hs i x H H' hi lx ⟨_, e⟩ (pn.le l2) hy (fun r H4 => match r with
      | some y => ∃ acc, H4 D = some (.lst acc) ∧ acc.length < sizeLine ∧ (LeX d H1 (upd H4 D (.lst (acc ++ [y]))) ∧ IsPen (upd H4 D (.lst (acc ++ [y]))) d dl (N0 + ((i + 1 : Nat) : Int) * c) ∧ ∃ rs' : List (Option V), rs'.length = i + 1 ∧ (∀ r ∈ rs', R r (upd H4 D (.lst (acc ++ [y])))) ∧ upd H4 D (.lst (acc ++ [y])) D = some (.lst (rs'.filterMap id)))
      | none => LeX d H1 H4 ∧ IsPen H4 d dl (N0 + ((i + 1 : Nat) : Int) * c) ∧ ∃ rs' : List (Option V), rs'.length = i + 1 ∧ (∀ r ∈ rs', R r H4) ∧ H4 D = some (.lst (rs'.filterMap id))) ?_
    · exact st
    · intro r H2 l3 p3 hr2
      have eD2 := l3 D _ hdD.symm eD
      have k1 : LeX d H1 H2 := (lx.tr l2.x).tr l3
      have old : ∀ q ∈ rs, R q H2 := fun q hq => hR q H H2 (fun a o h1 _ h => (l2.x.tr l3) a o h1 h) ⟨_, e⟩ (penK pn) (hr q hq)
      rw [one] at p3
      cases r with
      | none =>
        refine ⟨k1, p3, rs ++ [none], by simp [hl], fun q hq => ?_, by simpa using eD2⟩
        rcases List.mem_append.mp hq with h | h
        · exact old q h
        · rw [List.mem_singleton.mp h]; exact hr2
      | some y =>
        have lxx : ∀ o, LeXX d D H2 (upd H2 D o) := fun o a u _ h2 h => by rw [upd_ne h2]; exact h
        refine ⟨_, eD2, by omega, fun a o h1 h => ?_, p3.lx (Le.refl.x.upd) hdD hlD, rs ++ [some y], by simp [hl], fun q hq => ?_, by rw [upd_self]; simp⟩
        · by_cases c : a = D
          · subst c; rw [hD] at h; cases h
          · rw [upd_ne c]; exact k1 a o h1 h
        · rcases List.mem_append.mp hq with h | h
          · exact hR q H2 _ (lxx _) ⟨_, eD2⟩ (penK p3) (old q h)
          · rw [List.mem_singleton.mp h]; exact hR _ H2 _ (lxx _) ⟨_, eD2⟩ (penK p3) hr2
  · rintro H ⟨lx, pn, rs, hl, hr, e⟩
    exact hd H rs lx pn hl hr e
theorem lg9 : ∀ x : Int, 0 < x → x < 100000000 → x.natAbs.log2 < 9000 := fun x h0 h => by
  have h1 : x.natAbs ≠ 0 := by omega
  have := (Nat.log2_lt h1).mpr (show x.natAbs < 2 ^ 27 by omega)
  omega
theorem IsPen.ne {H : Hp} {d dl p : Addr} {n : Int} (pn : IsPen H d dl n) {xs : List V} (h : H p = some (.lst xs)) : p ≠ d := fun c => by
  obtain ⟨kvs, e⟩ := pn.dict
  rw [c, e] at h
  cases h
theorem at_mem {α : Type} {xs : List α} {r : Int} (h0 : 0 ≤ r) (h1 : r < xs.length) : ∃ v ∈ xs, atI xs r = some v := by
  have h2 : r.toNat < xs.length := by omega
  refine ⟨xs[r.toNat], List.getElem_mem h2, ?_⟩
  have := atI_nat (xs := xs) (j := r.toNat) (v := xs[r.toNat]) (List.getElem?_eq_getElem h2)
  rwa [show ((r.toNat : Nat) : Int) = r by omega] at this
end Od
end
section
set_option Elab.async false
set_option linter.all false
set_option maxRecDepth 100000
set_option maxHeartbeats 2000000
set_option autoImplicit false
namespace Od
open PySem PySem.Spec PyProof.Rows L2 C8 Day
abbrev s_is_row : Stmt := top 17
abbrev N_is_row : List Str := ["word", "sign"]
abbrev P_is_row : List Str := ["word"]
theorem sc_is_row : FnScope N_is_row P_is_row (C8.fnScope s_is_row) := fnScope_by (by decide +kernel)
abbrev s_is_count : Stmt := top 7
abbrev N_is_count : List Str := ["word", "sign"]
abbrev P_is_count : List Str := ["word"]
theorem sc_is_count : FnScope N_is_count P_is_count (C8.fnScope s_is_count) := fnScope_by (by decide +kernel)
abbrev s_is_number : Stmt := top 8
abbrev N_is_number : List Str := ["word"]
abbrev P_is_number : List Str := ["word"]
theorem sc_is_number : FnScope N_is_number P_is_number (C8.fnScope s_is_number) := fnScope_by (by decide +kernel)
theorem fm_str {α : Type} (z : Str) (f : Nat → α) : ((List.range z.cps.size).filterMap fun i => (z.cps[i]?).map f) = z.cps.toList.map f := by
  have h := fm_get z.cps.toList
  rw [Array.length_toList] at h
  have h2 := congrArg (List.map f) h
  rw [List.map_filterMap] at h2
  rw [← h2]
  simp only [Array.getElem?_toList]
theorem cps_len (z : Str) : z.cps.toList.length = z.length := by simp [Str.length]
theorem cutS_to (z : Str) (i : Nat) : (cutS z none (some (i : Int))).cps.toList = z.cps.toList.take i := by
  have h := cps_len z
  show ((z.cps.toList.drop (HT.sIx z.length 0 none)).take (HT.sIx z.length z.length (some (i : Int)) - HT.sIx z.length 0 none)) = _
  rw [HT.sIx_nat, HT.sIx_none, List.drop_zero, Nat.sub_zero]
  by_cases c : i ≤ z.length
  · rw [Nat.min_eq_left c]
  · rw [Nat.min_eq_right (by omega), List.take_of_length_le (by omega), List.take_of_length_le (by omega)]
theorem cutS_from (z : Str) (i : Nat) : (cutS z (some (i : Int)) none).cps.toList = z.cps.toList.drop i := by
  have h := cps_len z
  show ((z.cps.toList.drop (HT.sIx z.length 0 (some (i : Int)))).take (HT.sIx z.length z.length none - HT.sIx z.length 0 (some (i : Int)))) = _
  rw [HT.sIx_nat, HT.sIx_none]
  by_cases c : i ≤ z.length
  · rw [Nat.min_eq_left c, List.take_of_length_le (by rw [List.length_drop]; omega)]
  · rw [Nat.min_eq_right (by omega), List.drop_eq_nil_of_le (by omega), List.drop_eq_nil_of_le (by omega)]
    simp
def IsRowL (l : List Nat) : Prop := l ≠ [] ∧ ∀ c ∈ l, c = 48 ∨ c = 49
def IsCnt (l : List Nat) : Prop := l ≠ [] ∧ (∀ c ∈ l, 48 ≤ c ∧ c ≤ 57) ∧ (l = [48] ∨ l.head? ≠ some 48)
def IsNum (l : List Nat) : Prop := (∃ r, l = 45 :: r ∧ IsCnt r ∧ r ≠ [48]) ∨ IsCnt l
theorem tl_nil : (("" : Str)).cps.toList = [] := by decide +kernel
theorem str_dec (z : Str) (l : List Nat) (y : Str) (h : y.cps.toList = l) : decide (V.str z = V.str y) = decide (z.cps.toList = l) := by
  by_cases c : z.cps.toList = l
  · rw [decide_eq_true c, decide_eq_true]
    rw [TL.ext_tl (x := z) (y := y) (c.trans h.symm)]
  · rw [decide_eq_false c, decide_eq_false]
    intro e
    injection e with e
    exact c (by rw [e, h])
section
variable {P : Program} {w : World} {K : PySem.W.Frag} {mg : Str → Option Value} {base : Heap}
def sp_isL (R : List Nat → Prop) : Sp := fun vs H Q _ => ∃ z : Str, vs = [.str z] ∧ z.length ≤ 1000000 ∧ ∀ b H', Le H H' → (b = true ↔ R z.cps.toList) → Q (.bl b) H'
theorem c_is_row (T : Txt K mg) (F : DefOf K mg "is_row" s_is_row P_is_row) : Cal P w K mg base 1 "is_row" (sp_isL IsRowL) [] := by
  obtain ⟨f, fd, F, B⟩ := F
  refine cal0 F B .nil sc_is_row (fun vs H Q E h => by obtain ⟨_, rfl, _⟩ := h; rfl) (fun cdv A outer s H vs Q E hr h => ?_)
  obtain ⟨z, rfl, hz, q⟩ := h
  have nd := sc_is_row.nd
  refine ⟨_, (pss_one (ps_ret (pe_and (pe_cmpR op_ne (pv 0) pe_str (nomark _)) (pe_one (pe_callB (cr_all rfl) (by rfl) T.b_all (by decide +kernel) (pa_cons (pe_lc (own := [("sign", 1)]) (g := gName 1) (by rfl) nd (pi_str (pv 0)) (blkOk_by (own := [("sign", 1)]) (N := N_is_row) (sc := C8.fnScope s_is_row) (by decide +kernel)) (fun _ _ _ _ _ => pg_name (i := 1) nd rfl (Or.inl rfl)) (fun _ _ _ _ _ => pts_nil) (fun _ _ _ _ _ => (pe_cmpR op_in_sign (pv 1) pe_str (by rfl)))) pa_nil)))))), ?_⟩
  refine ⟨_, rfl, rfl, _, rfl, ?_⟩
  show if (!decide (V.str z = V.str ("" : Str))) = true then _ else _
  rw [str_dec z [] "" tl_nil]
  refine ite2 (fun c => ?_) (fun c => ?_)
  · have hne : z.cps.toList ≠ [] := fun e => by rw [decide_eq_true e] at c; cases c
    refine ⟨_, rfl, _, rfl, fun d hd => ?_⟩
    refine lc_pure walk_str hd ?_ (fun _ _ => trivial) (fun _ _ _ _ h => by rw [h.1]; exact .refl) (fun i => (z.cps[i]?).map fun c => V.bl (decide (c = 48 ∨ c = 49))) ?_ ?_
    · exact le_szl _ (show z.length ≤ 16777216 by omega)
    · rintro i x H1 H2 hi le ⟨rfl, c, hc, rfl⟩ N hN
      have := hN H2 .refl
      rw [hc] at this
      refine ⟨rfl, _, rfl, c, _, rfl, rfl, ?_⟩
      have e : decide (c ∈ (("01" : Str)).cps.toList) = decide (c = 48 ∨ c = 49) := by
        rw [show (("01" : Str)).cps.toList = [48, 49] by decide +kernel]
        simp
      rw [e]
      exact this
    · intro H1 le e
      rw [fm_str z fun c => V.bl (decide (c = 48 ∨ c = 49))] at e
      refine ⟨d, z.cps.toList.map fun c => decide (c = 48 ∨ c = 49), rfl, .of (by rw [e, List.map_map]; rfl), q _ _ le ?_⟩
      rw [List.all_map, List.all_eq_true]
      constructor
      · intro h
        exact ⟨hne, fun c hc => of_decide_eq_true (h c hc)⟩
      · intro h c hc
        exact decide_eq_true (h.2 c hc)
  · have he : z.cps.toList = [] := by
      cases h : z.cps.toList with
      | nil => rfl
      | cons a r => rw [h] at c; exact absurd rfl c
    refine q _ _ .refl ⟨fun h => (by cases h), fun h => absurd he h.1⟩
theorem c_is_count (T : Txt K mg) (G_DIGITS : ∃ u, mg "DIGITS" = some u ∧ L2.RelV (.str "0123456789") u) (F : DefOf K mg "is_count" s_is_count P_is_count) : Cal P w K mg base 1 "is_count" (sp_isL IsCnt) [] := by
  obtain ⟨f, fd, F, B⟩ := F
  refine cal0 F B .nil sc_is_count (fun vs H Q E h => by obtain ⟨_, rfl, _⟩ := h; rfl) (fun cdv A outer s H vs Q E hr h => ?_)
  obtain ⟨z, rfl, hz, q⟩ := h
  have nd := sc_is_count.nd
  refine ⟨_, (pss_cons (ps_if (PW.pt (pw_or (pt_cmpR op_eq (pv 0) pe_str (nomark _)) (pw_or1 (pt_not (pt_val (pe_callB (cr_all rfl) (by rfl) T.b_all (by decide +kernel) (pa_cons (pe_lc (own := [("sign", 1)]) (g := gName 1) (by rfl) nd (pi_str (pv 0)) (blkOk_by (own := [("sign", 1)]) (N := N_is_count) (sc := C8.fnScope s_is_count) (by decide +kernel)) (fun _ _ _ _ _ => pg_name (i := 1) nd rfl (Or.inl rfl)) (fun _ _ _ _ _ => pts_nil) (fun _ _ _ _ _ => (pe_cmpR op_in_sign (pv 1) (pe_gc rfl G_DIGITS) (by rfl)))) pa_nil))))))) (pss_one (ps_ret pe_bl)) pss_nil)
      (pss_one (ps_ret (pe_or (pe_cmpR op_eq (pv 0) pe_str (nomark _)) (pe_one (pe_cmpR op_ne (pe_ix ix_str (pv 0) pe_int (fun _ _ => rfl)) pe_str (nomark _))))))), ?_⟩
  have dig : (("0123456789" : Str)).cps.toList = [48, 49, 50, 51, 52, 53, 54, 55, 56, 57] := by decide +kernel
  have hz1 : z.length ≤ sizeLine := le_szl _ (by omega)
  refine ⟨_, rfl, rfl, _, rfl, ?_⟩
  show if decide (V.str z = V.str ("" : Str)) = true then _ else _
  rw [str_dec z [] "" tl_nil]
  refine ite2 (fun c => ?_) (fun c => ?_)
  · have he : z.cps.toList = [] := of_decide_eq_true c
    exact q _ _ .refl ⟨fun h => (by cases h), fun h => absurd he h.1⟩
  have hne : z.cps.toList ≠ [] := fun e => c (decide_eq_true e)
  refine ⟨_, rfl, _, rfl, fun d hd => ?_⟩
  refine lc_pure walk_str hd ?_ (fun _ _ => trivial) (fun _ _ _ _ h => by rw [h.1]; exact .refl) (fun i => (z.cps[i]?).map fun c => V.bl (decide (48 ≤ c ∧ c ≤ 57))) ?_ ?_
  · exact le_szl _ (show z.length ≤ 16777216 by omega)
  · rintro i x H1 H2 hi le ⟨rfl, c, hc, rfl⟩ N hN
    have := hN H2 .refl
    rw [hc] at this
    refine ⟨rfl, _, rfl, c, _, rfl, rfl, ?_⟩
    have e : decide (c ∈ (("0123456789" : Str)).cps.toList) = decide (48 ≤ c ∧ c ≤ 57) := by
      rw [dig, decide_eq_decide]
      simp
      omega
    rw [e]
    exact this
  · intro H1 le e
    rw [fm_str z fun c => V.bl (decide (48 ≤ c ∧ c ≤ 57))] at e
    refine ⟨d, z.cps.toList.map fun c => decide (48 ≤ c ∧ c ≤ 57), rfl, .of (by rw [e, List.map_map]; rfl), _, rfl, ?_⟩
    have hall : (z.cps.toList.map fun c => decide (48 ≤ c ∧ c ≤ 57)).all id = true ↔ ∀ c ∈ z.cps.toList, 48 ≤ c ∧ c ≤ 57 := by
      rw [List.all_map, List.all_eq_true]
      exact ⟨fun h c hc => of_decide_eq_true (h c hc), fun h c hc => decide_eq_true (h c hc)⟩
    refine ite2 (fun c2 => ?_) (fun c2 => ?_)
    · refine q _ _ le ⟨fun h => (by cases h), fun h => ?_⟩
      rw [hall.mpr h.2.1] at c2
      cases c2
    have hd2 : ∀ c ∈ z.cps.toList, 48 ≤ c ∧ c ≤ 57 := hall.mp (by
      cases h : (z.cps.toList.map fun c => decide (48 ≤ c ∧ c ≤ 57)).all id with
      | true => rfl
      | false => rw [h] at c2; exact absurd rfl c2)
    refine ⟨_, rfl, rfl, _, rfl, ?_⟩
    show if decide (V.str z = V.str ("0" : Str)) = true then _ else _
    rw [str_dec z [48] "0" (by decide +kernel)]
    refine ite2 (fun c3 => ?_) (fun c3 => ?_)
    · exact q _ _ le ⟨fun _ => ⟨hne, hd2, .inl (of_decide_eq_true c3)⟩, fun _ => rfl⟩
    · cases hl : z.cps.toList with
      | nil => exact absurd hl hne
      | cons a r =>
        refine ⟨_, rfl, z, 0, a, rfl, rfl, hz1, by rw [hl]; exact atI_nat (j := 0) rfl, rfl, q _ _ le ?_⟩
        have e2 : decide (V.str ⟨#[a]⟩ = V.str ("0" : Str)) = decide (a = 48) := by
          rw [str_dec _ [48] "0" (by decide +kernel), decide_eq_decide]
          show [a] = [48] ↔ _
          simp
        show (!decide (V.str ⟨#[a]⟩ = V.str ("0" : Str))) = true ↔ _
        rw [e2]
        constructor
        · intro h
          refine ⟨hne, hd2, .inr ?_⟩
          rw [hl]
          intro e
          have : a = 48 := Option.some.inj e
          rw [decide_eq_true this] at h
          cases h
        · rintro ⟨_, _, h | h⟩
          · exact absurd (decide_eq_true h) c3
          · rw [hl] at h
            have : a ≠ 48 := fun e => h (by rw [e]; rfl)
            rw [decide_eq_false this]
            rfl
theorem c_is_number (T : Txt K mg) (F : DefOf K mg "is_number" s_is_number P_is_number) (C_is_count : Cal P w K mg base 1 "is_count" (sp_isL IsCnt) []) : Cal P w K mg base 2 "is_number" (sp_isL IsNum) [] := by
  obtain ⟨f, fd, F, B⟩ := F
  refine cal0 F B .nil sc_is_number (fun vs H Q E h => by obtain ⟨_, rfl, _⟩ := h; rfl) (fun cdv A outer s H vs Q E hr h => ?_)
  obtain ⟨z, rfl, hz, q⟩ := h
  have nd := sc_is_number.nd
  refine ⟨_, (pss_cons (ps_if (pt_cmpR op_eq (pe_slice sl_str (pv 0) po_none (po_some pe_int)) pe_str (nomark _)) (pss_one (ps_ret (pe_and (pe_c C_is_count hr (by decide) rfl (pa_cons (pe_slice sl_str (pv 0) (po_some pe_int) po_none) pa_nil)) (pe_one (pe_cmpR op_ne (pv 0) pe_str (nomark _)))))) pss_nil)
      (pss_one (ps_ret (pe_c C_is_count hr (by decide) rfl (pa_cons (pv 0) pa_nil))))), ?_⟩
  have hz1 : z.length ≤ sizeLine := le_szl _ (by omega)
  have c1 : (cutS z none (some 1)).cps.toList = z.cps.toList.take 1 := cutS_to z 1
  have c2 : (cutS z (some 1) none).cps.toList = z.cps.toList.drop 1 := cutS_from z 1
  refine ⟨_, rfl, _, rfl, _, rfl, hz1, rfl, _, rfl, ?_⟩
  show if decide (V.str (cutS z none (some 1)) = V.str ("-" : Str)) = true then _ else _
  rw [str_dec _ [45] "-" tl_dash, c1]
  refine ite2 (fun c => ?_) (fun c => ?_)
  · have h1 : z.cps.toList.take 1 = [45] := of_decide_eq_true c
    obtain ⟨r, hr⟩ : ∃ r, z.cps.toList = 45 :: r := by
      cases h : z.cps.toList with
      | nil => rw [h] at h1; cases h1
      | cons a r =>
        rw [h] at h1
        have : a = 45 := by simpa using h1
        exact ⟨r, by rw [this]⟩
    have hlen : (cutS z (some 1) none).length ≤ 1000000 := by
      have : (cutS z (some 1) none).length = (cutS z (some 1) none).cps.toList.length := by simp [Str.length]
      rw [this, c2, List.length_drop]
      have : z.length = z.cps.toList.length := by simp [Str.length]
      omega
    refine ⟨_, rfl, _, rfl, _, rfl, hz1, _, rfl, hlen, fun b H1 l1 hb => ?_⟩
    rw [c2, hr] at hb
    have hb : b = true ↔ IsCnt r := hb
    refine ⟨_, rfl, ?_⟩
    refine ite2 (fun c => ?_) (fun c => ?_)
    · refine ⟨_, rfl, rfl, q _ _ l1 ?_⟩
      show (!decide (V.str z = V.str ("-0" : Str))) = true ↔ _
      rw [str_dec z [45, 48] "-0" (by decide +kernel), hr]
      constructor
      · intro h
        refine .inl ⟨r, rfl, hb.mp c, fun e => ?_⟩
        rw [e] at h
        cases h
      · rintro (⟨r', e, _, h⟩ | h)
        · have : r = r' := by injection e
          subst this
          have : ¬ (45 :: r = [45, 48]) := fun e => h (by injection e)
          rw [decide_eq_false this]
          rfl
        · have := h.2.1 45 List.mem_cons_self
          omega
    · refine q _ _ l1 ⟨fun h => (by cases h), fun h => ?_⟩
      rw [hr] at h
      rcases h with ⟨r', e, h, _⟩ | h
      · have : r = r' := by injection e
        subst this
        exact absurd (hb.mpr h) c
      · have := h.2.1 45 List.mem_cons_self
        omega
  · have h1 : z.cps.toList.take 1 ≠ [45] := fun e => c (decide_eq_true e)
    refine ⟨_, rfl, z, rfl, hz, fun b H1 l1 hb => q _ _ l1 ?_⟩
    rw [hb]
    constructor
    · exact .inr
    · rintro (⟨r, e, _⟩ | h)
      · exact absurd (by rw [e]; rfl) h1
      · exact h
end
end Od
end
section
set_option Elab.async false
set_option linter.all false
set_option maxRecDepth 100000
set_option maxHeartbeats 2000000
set_option autoImplicit false
namespace Od
open PySem PySem.Spec PyProof.Rows L2 C8 Day
abbrev s_DaySet_read : Stmt := inClass (top 18) 7
abbrev N_DaySet_read : List Str := ["cls", "text", "words", "at", "word", "left", "low", "middle", "right"]
abbrev P_DaySet_read : List Str := ["cls", "text"]
theorem sc_DaySet_read : FnScope N_DaySet_read P_DaySet_read (C8.fnScope s_DaySet_read) := fnScope_by (by decide +kernel)
/-- the four words -/
def words4 (l : List Bool) (n : Int) (m r : List Bool) : List Str := [rowS l, numS n, midS m, rowS r]
theorem row_is {l : List Bool} (h : l ≠ []) : IsRowL (rowS l).cps.toList := by
  rw [rowS_tl]
  refine ⟨fun e => h (List.map_eq_nil_iff.mp e), fun c hc => ?_⟩
  obtain ⟨b, _, rfl⟩ := List.mem_map.mp hc
  cases b
  · exact .inl rfl
  · exact .inr rfl
theorem cnt_num (n : Nat) : IsCnt (TL.numL n) := by
  refine ⟨TL.numL_ne n, fun c hc => TL.numL_digits n c hc, ?_⟩
  by_cases h0 : n = 0
  · subst h0
    exact .inl (by rw [TL.numL_lt (by decide)])
  · right
    have h : ∀ n : Nat, n ≠ 0 → (TL.numL n).head? ≠ some 48 := by
      intro n
      induction n using Nat.strongRecOn with
      | _ n ih =>
        intro h0 e
        by_cases h : n < 10
        · rw [TL.numL_lt h] at e
          have : 48 + n = 48 := Option.some.inj e
          omega
        · rw [TL.numL_step (by omega)] at e
          have h2 := ih (n / 10) (by omega) (by omega)
          cases hl : TL.numL (n / 10) with
          | nil => exact TL.numL_ne _ hl
          | cons a r =>
            rw [hl] at e h2
            exact h2 e
    exact h n h0
theorem num_is (n : Int) : IsNum (numS n).cps.toList := by
  rw [numS_tl]
  by_cases h : n < 0
  · rw [if_pos h]
    refine .inl ⟨_, rfl, cnt_num _, fun e => ?_⟩
    have : TL.numL 0 = [48] := TL.numL_lt (by decide)
    rw [← this] at e
    have := TL.numL_inj e
    omega
  · rw [if_neg h]
    exact .inr (cnt_num _)
theorem int_numS {n : Int} (h : n.natAbs < 10 ^ 8) : intText? (numS n) = some n ∧ (numS n).length ≤ 640 := by
  have hl : (TL.numL n.natAbs).length ≤ 8 := TL.numL_len (by decide) h
  have hlen : (numS n).length ≤ 9 := numS_len (by decide) h
  refine ⟨?_, by omega⟩
  by_cases c : n < 0
  · have e : (numS n).cps.toList = 45 :: TL.numL n.natAbs := by rw [numS_tl, if_pos c]
    rw [intText_neg e (TL.numL_digits _) (TL.numL_ne _) (by omega), TL.numL_val]
    congr 1
    omega
  · have e : (numS n).cps.toList = TL.numL n.natAbs := by rw [numS_tl, if_neg c]
    rw [intText_digits (by rw [e]; exact TL.numL_digits _) (by rw [e]; exact TL.numL_ne _) (by omega), e, TL.numL_val]
    congr 1
    omega
theorem split4 (l : List Bool) (n : Int) (m r : List Bool) : Txt.split (Txt.join (" " : Str) (words4 l n m r)) (" " : Str) = words4 l n m r := by
  refine TL.split_join (s := 32) (S := []) tl_sp (by decide +kernel) (by simp [words4]) fun p hp => ?_
  simp only [words4, List.mem_cons, List.not_mem_nil, or_false] at hp
  rcases hp with rfl | rfl | rfl | rfl
  · exact sg_free (by decide) (by decide)
  · exact numS_free (.inl (by decide)) _
  · exact midS_free (by decide) (by decide) (by decide) _
  · exact sg_free (by decide) (by decide)
section
variable {P : Program} {w : World} {K : PySem.W.Frag} {mg : Str → Option Value} {base : Heap}
def sp_read (C : Addr) : Sp := fun vs H Q _ => ∃ (l : List Bool) (n : Int) (m r : List Bool), vs = [.ref C, .str (Txt.join (" " : Str) (words4 l n m r))] ∧ l ≠ [] ∧ r ≠ [] ∧ l.length ≤ 1000 ∧ m.length ≤ 1000 ∧ r.length ≤ 1000 ∧ n.natAbs < 10 ^ 8 ∧ (Txt.join (" " : Str) (words4 l n m r)).length ≤ 1000000 ∧
  ∀ p H', Le H H' → IsDay C H' p (Frm.mk l n m r).mem → H p = none → Q (.ref p) H'
theorem q_read {C : Addr} (T : Txt K mg) (D : DSC K mg C) (M : ClmOf K C "read" "DaySet.read" s_DaySet_read P_DaySet_read) (C_is_number : Cal P w K mg base 2 "is_number" (sp_isL IsNum) []) (C_is_row : Cal P w K mg base 1 "is_row" (sp_isL IsRowL) []) (M_DaySet : Mak P w K mg base 4 "DaySet" C (sp_init C) []) : CMt P w K mg base 6 C "read" (sp_read C) := by
  obtain ⟨mc, pp, g, fd, r, cm, F, B⟩ := M
  refine cmt0 r cm F B sc_DaySet_read (fun vs H Q E h => by obtain ⟨_, _, _, _, rfl, _⟩ := h; rfl) (fun cdv A outer s H vs Q E hr h => ?_)
  obtain ⟨l, n, m, r, rfl, l0, r0, ll, lm, lr, ln, lt, qq⟩ := h
  have nd := sc_DaySet_read.nd
  refine ⟨_, (C8.pss_cut (ps_set (i := 2) nd rfl (Or.inl rfl) (pe_ifExp (pt_cmpR op_ne (pv 1) pe_str (nomark _)) (pe_split (pv 1) pe_str) (pe_lst pa_nil)))
      (C8.pss_cut (ps_for PassesOwn.never rfl (pi_enum (by rfl) T.b_enumerate (pa_cons (pe_slice sl_list (pv 2) po_none (po_some pe_int)) pa_nil)) (pg_tup rfl (pgs_cons (pg_name (i := 3) nd rfl (Or.inl rfl)) (pgs_cons (pg_name (i := 4) nd rfl (Or.inl rfl)) pgs_nil))) (pss_one (ps_if (pt_not (pt_ifE (pt_cmpR op_eq (pv 3) pe_int (nomark _)) (pt_val (pe_c C_is_number hr (by decide) rfl (pa_cons (pv 4) pa_nil))) (PW.pt (pw_or (pt_val (pe_c C_is_row hr (by decide) rfl (pa_cons (pv 4) pa_nil))) (pw_or1 (PW.pt (pw_and (pt_cmpR op_eq (pv 3) pe_int (nomark _)) (pw_and1 (pt_cmpR op_eq (pv 4) pe_str (nomark _)))))))))) (pss_one ps_never) pss_nil)))
      (C8.pss_cut (ps_if (pt_cmpR op_ne (pe_callB call_len_seq (by rfl) T.b_len (by decide +kernel) (pa_cons (pv 2) pa_nil)) pe_int (nomark _)) (pss_one ps_never) pss_nil)
      (pss_cons (ps_asg (pv 2) (pg_lst rfl (pgs_cons (pg_name (i := 5) nd rfl (Or.inl rfl)) (pgs_cons (pg_name (i := 6) nd rfl (Or.inl rfl)) (pgs_cons (pg_name (i := 7) nd rfl (Or.inl rfl)) (pgs_cons (pg_name (i := 8) nd rfl (Or.inl rfl)) pgs_nil))))))
      (pss_one (ps_ret (pe_mk M_DaySet hr (by decide) rfl (pa_cons (pv 5) (pa_cons (pe_callTy call_int_str (by rfl) T.b_int (by decide +kernel) (pa_cons (pv 6) pa_nil)) (pa_cons (pe_ifExp (pt_cmpR op_eq (pv 7) pe_str (nomark _)) pe_str (pv 7)) (pa_cons (pv 8) pa_nil))))))))))), ?_⟩
  have hne : (Txt.join (" " : Str) (words4 l n m r)).cps.toList ≠ [] := fun e => by
    have h := split4 l n m r
    have e2 : Txt.join (" " : Str) (words4 l n m r) = ("" : Str) := TL.ext_tl (e.trans tl_nil.symm)
    rw [e2] at h
    have h2 := congrArg List.length h
    have : (Txt.split ("" : Str) (" " : Str)).length = 1 := by decide +kernel
    rw [this] at h2
    cases h2
  have sz : sizeLine = 16777216 := sizeLine_eq
  -- the words
  refine ⟨fun σ' H' => ∃ dw, Le H H' ∧ H' dw = some (.lst ((words4 l n m r).map V.str)) ∧ σ' = [some (.ref C), some (.str (Txt.join (" " : Str) (words4 l n m r))), some (.ref dw), none, none, none, none, none, none], ?_, ?_⟩
  · refine ⟨_, rfl, rfl, _, rfl, ?_⟩
    show if (!decide (V.str (Txt.join (" " : Str) (words4 l n m r)) = V.str ("" : Str))) = true then _ else _
    rw [str_dec _ [] "" tl_nil, decide_eq_false hne]
    refine ⟨_, rfl, ⟨_, rfl⟩, _, _, rfl, rfl, by decide +kernel, by omega, fun q hq => ?_⟩
    rw [split4]
    exact ⟨q, Le.new hq, upd_self, rfl⟩
  rintro σ' H1 ⟨dw, l1, e1, rfl⟩
  -- each is right
  refine ⟨fun σ' H' => Le H1 H' ∧ ∃ x3 x4, σ' = [some (.ref C), some (.str (Txt.join (" " : Str) (words4 l n m r))), some (.ref dw), x3, x4, none, none, none, none], ?_, ?_⟩
  · refine ⟨_, rfl, _, rfl, dw, _, rfl, .of e1, fun q hq => ?_⟩
    have ec : cutV ((words4 l n m r).map V.str) none (some 4) = (words4 l n m r).map V.str := by rfl
    rw [ec]
    have k1 := Le.new (o := .lst ((words4 l n m r).map V.str)) hq
    refine ⟨q, _, rfl, .of upd_self, ?_⟩
    refine for_it (walk_enum (K := K) (a := q) (xs := (words4 l n m r).map V.str)) (fun i σ' H' => Le (upd H1 q (.lst ((words4 l n m r).map V.str))) H' ∧ ∃ x3 x4, σ' = [some (.ref C), some (.str (Txt.join (" " : Str) (words4 l n m r))), some (.ref dw), x3, x4, none, none, none, none]) ?_ ?_ ?_ ?_
    · exact ⟨.refl, _, _, rfl⟩
    · rintro i σ' H' _ ⟨le, _⟩
      exact .of (le _ _ upd_self)
    · rintro i v σ' Ha Hb hi ⟨le, x3, x4, rfl⟩ ⟨Tt, x, y, rfl, hT, rfl, hx, hy⟩
      have hx : V.int (i : Nat) = x := Option.some.inj hx
      subst hx
      have leT := le.trans (Le.new (o := .tup [.int (i : Nat), y]) hT)
      have hy : ((words4 l n m r).map V.str)[i]? = some y := hy
      rw [List.getElem?_map] at hy
      obtain ⟨z, hz, rfl⟩ := Option.map_eq_some_iff.mp hy
      have zlen : z.length ≤ 1000000 := by
        have : z ∈ words4 l n m r := List.mem_of_getElem? hz
        simp only [words4, List.mem_cons, List.not_mem_nil, or_false] at this
        rcases this with rfl | rfl | rfl | rfl
        · rw [rowS_len]; omega
        · have := (int_numS ln).2; omega
        · unfold midS; split
          · decide +kernel
          · rw [rowS_len]; omega
        · rw [rowS_len]; omega
      refine ⟨Tt, _, rfl, .of upd_self, rfl, _, _, rfl, _, _, rfl, rfl, ?_⟩
      refine ⟨_, rfl, rfl, _, rfl, ?_⟩
      refine ite2 (fun c => ?_) (fun c => ?_)
      · have i1 : i = 1 := by
          have := of_decide_eq_true c
          injection this with this
          omega
        subst i1
        have hz : numS n = z := Option.some.inj hz
        subst hz
        refine ⟨_, rfl, _, rfl, zlen, fun b H3 l3 hb => ⟨_, rfl, ?_⟩⟩
        rw [hb.mpr (num_is n)]
        exact ⟨leT.trans l3, _, _, rfl⟩
      · refine ⟨_, rfl, _, rfl, zlen, fun b H3 l3 hb => ⟨_, rfl, ?_⟩⟩
        refine ite2 (fun c2 => ?_) (fun c2 => ?_)
        · exact ⟨leT.trans l3, _, _, rfl⟩
        have nrow : ¬ IsRowL z.cps.toList := fun h => c2 (hb.mpr h)
        have hi2 : i = 2 ∧ z = ("-" : Str) := by
          match i, hz with
          | 0, hz =>
            have hz : rowS l = z := Option.some.inj hz
            rw [← hz] at nrow
            exact absurd (row_is l0) nrow
          | 1, hz => exact absurd rfl c
          | 2, hz =>
            have hz : midS m = z := Option.some.inj hz
            refine ⟨rfl, ?_⟩
            rw [← hz] at nrow ⊢
            unfold midS at nrow ⊢
            by_cases hm : m = []
            · rw [if_pos hm]
            · rw [if_neg hm] at nrow
              exact absurd (row_is hm) nrow
          | 3, hz =>
            have hz : rowS r = z := Option.some.inj hz
            rw [← hz] at nrow
            exact absurd (row_is r0) nrow
          | i + 4, hz => simp [words4] at hz
        obtain ⟨rfl, rfl⟩ := hi2
        refine ⟨_, rfl, rfl, _, rfl, ?_⟩
        refine ⟨_, rfl, rfl, _, rfl, ?_⟩
        have : decide (V.str ("-" : Str) = V.str ("-" : Str)) = true := by rw [decide_eq_true rfl]
        show if (!decide (V.str ("-" : Str) = V.str ("-" : Str))) = true then _ else _
        rw [this]
        exact ⟨leT.trans l3, _, _, rfl⟩
    · rintro σ' H' ⟨le, h⟩
      exact ⟨k1.trans le, h⟩
  rintro σ' H2 ⟨l2, x3, x4, rfl⟩
  have e2 := l2 _ _ e1
  refine ⟨fun σ' H' => H' = H2 ∧ σ' = [some (.ref C), some (.str (Txt.join (" " : Str) (words4 l n m r))), some (.ref dw), x3, x4, none, none, none, none], ?_, ?_⟩
  · refine ⟨_, rfl, dw, _, rfl, .inl (.of e2), rfl, _, rfl, ?_⟩
    exact ⟨rfl, rfl⟩
  rintro σ' H3 ⟨rfl, rfl⟩
  refine ⟨_, rfl, dw, _, rfl, .of e2, rfl, ?_⟩
  refine ⟨_, _, rfl, _, _, rfl, _, _, rfl, _, _, rfl, rfl, ?_⟩
  have hmid : decide (V.str (midS m) = V.str ("-" : Str)) = decide (m = []) := by
    rw [str_dec _ [45] "-" tl_dash, decide_eq_decide, midS_tl]
    constructor
    · intro h
      by_cases c : m = []
      · exact c
      · rw [if_neg c] at h
        have : 45 ∈ m.map sg := by rw [h]; exact List.mem_cons_self
        exact absurd this (sg_free (by decide) (by decide))
    · intro h
      rw [if_pos h]
  refine ⟨_, rfl, _, rfl, _, n, rfl, (int_numS ln).1, (int_numS ln).2, _, rfl, rfl, _, rfl, ?_⟩
  show if decide (V.str (midS m) = V.str ("-" : Str)) = true then _ else _
  rw [hmid]
  have fin := make_day (C := C) (H := H3) (Q := Q) (E := C8.E0) l n m r (Frm.mk l n m r).mem l0 r0 (by omega) (by omega) (by omega) (fun _ => rfl) (fun p H' le hd h0 => qq p H' ((l1.trans l2).trans le) hd ((l1.trans l2).none h0))
  refine ite2 (fun c => ?_) (fun c => ?_)
  · have hm : m = [] := of_decide_eq_true c
    subst hm
    refine ⟨_, rfl, ?_⟩
    rw [rowS_nil] at fin
    exact fin
  · have hm : m ≠ [] := fun e => c (decide_eq_true e)
    refine ⟨_, rfl, _, rfl, ?_⟩
    have : midS m = rowS m := by unfold midS; rw [if_neg hm]
    rw [← this] at fin
    exact fin
end
end Od
end
section
set_option Elab.async false
set_option linter.all false
set_option maxRecDepth 100000
set_option maxHeartbeats 4000000
set_option autoImplicit false
/-! own exception classes over ValueError, whose __init__ says super().__init__(..): made, read, asked by isinstance, raised -/
namespace Od
open PySem PySem.Spec PyProof.Rows L2
/-! ### the wrapper that super().__init__ gives, called -/
section
open PySem.W PySem.Calls
variable {prog : Program} {w : World} {A : Around} {E : Value → Shared → Prop} {h : Heap} {g : Array GenState} {d : Drawn} {t : Nat} {os : OsState}
variable {nm q : Str} {C N : Addr} {bs bm : List Value} {hdct : Bool} {sn : List Str} {sub : List Value} {ab : Bool} {col : Option Bool} {dd : Option Addr} {k0 k1 k2 k3 k5 : Option Value}
theorem call_mwVE {u e t0 : Addr} {rest : List Value} {Q : Value → Shared → Prop}
    (hC : h.get? C = some (excClassObj nm q C N bs bm hdct sn sub ab col dd k0 k1 k2 k3 k5 "ValueError.__new__")) (he : h.get? e = some (HandSPX.excO C t0)) (hu : h.get? u = some (kxs_mw "ValueError.__init__" e)) (hrest : rest.length ≤ sizeLine)
    (hq : ∀ h' t1, (∀ b o, b ≠ e → h.get? b = some o → h'.get? b = some o) → h'.get? e = some (HandSPX.excO C t1) → Q .none ⟨h', g, d, t, os⟩) :
    wpAny (model prog w) A (call (.ref u) rest) Q E ⟨h, g, d, t, os⟩ := by
  refine wpAny_call (codeAny_of_tree ?_)
  show wpAny _ A.in1 (callAny (.ref u) ⟨rest, []⟩) _ _ _
  simp only [callAny]
  refine wpAny_bind (wpAny_load hu ?_)
  simp only [kxs_mw, show (Value.type "method-wrapper" == Value.type "method" || Value.type "method-wrapper" == Value.type "builtin_function_or_method" || Value.type "method-wrapper" == Value.type "method-wrapper") = true by decide, if_true]
  refine W.KFB.if_so (by decide) ?_
  refine wpAny_bind (ESX.check_bound F.excBase_ValueError hC he rfl ?_)
  refine wpAny_bind (wpAny_pure (wpAny_pure ?_))
  refine ⟨Code.quiet_builtin _ (by decide +kernel), codeAny_builtin F.excBase_ValueError.initEntry ?_⟩
  rw [Around.under_plainId F.excBase_ValueError.init.plain _]
  wp_walk
  refine hq _ h.objs.size (fun b o hb ho => ?_) ?_
  · rw [Heap.get?_update_other _ _ (Ne.symm hb)]
    exact Heap.get?_push_of_some _ ho
  · rw [Heap.get?_update_self _ (Heap.get?_push_of_some _ he) rfl]
    rfl
end
/-! ### what the written part says of such a class -/
structure SupC (K : PySem.W.Frag) (C : Addr) : Prop where
  ox : OexC K C
  xf : XfC K C
  ec : ExcC K C
  mro : PySem.W.mroIn K C (.ref C) = some true
  sup : PySem.W.ks_superIn K C C "__init__" = some (some (.builtin "ValueError.__init__"))
  val : PySem.W.subIn K (.ref C) (.type "ValueError") = some true
  opq : PySem.W.nsIn K cStatics "thirdparty.any" = some none
/-- its __init__, a def that keeps its class in a cell -/
structure SupFun (K : PySem.W.Frag) (file : Str) (C : Addr) (qual : Str) (args : Arguments) (body : List Stmt) (scope : Scope) (f : Addr) (fd : FuncData) : Prop where
  ex : ∃ (oc : Value) (od : Option Addr) (doc pm ct : Value) (osl : Array (Option Value)) (cc : Addr) (ccl : Value) (ccd : Option Addr) (ccs : Array (Option Value)) (cd : Addr) (kcl : Value) (kcd : Option Addr) (kcs : Array (Option Value)) (vs : Array Value) (tf : Tok) (kV : Value) (an : Option Addr),
    fd = PySem.W.fnX "__init__" qual args body scope [("__class__", cc)] .none kV doc pm an (.ref cd) ct ∧ K.lookup f = some ⟨oc, od, .func fd, osl⟩ ∧ PySem.W.codeIn K (.ref cd) qual = true ∧
      K.lookup cc = some ⟨ccl, ccd, .cell (some (.ref C)), ccs⟩ ∧ K.lookup cd = some ⟨kcl, kcd, .fields vs, kcs⟩ ∧ vs[2]? = some (.str file tf)
/-- what the program says of the name super -/
structure SupP (P : Program) (file : Str) : Prop where
  hfile : ((P.main.file : Str) == file) = true
  htop : (P.main.scope.names.lookup ("super" : Str)).isSome = false
/-- what the def's scope says -/
structure SupS (scope : Scope) (args : Arguments) (x : Str) : Prop where
  su : scope.names.lookup ("super" : Str) = some .globalImplicit
  cl : scope.names.lookup ("__class__" : Str) = some .free
  lo : scope.names.lookup x = some .local
  hd : ∃ ar : Arg, (args.posonlyargs ++ args.args).head? = some ar ∧ ar.arg = x
abbrev supNF (qual : Str) (args : Arguments) (scope : Scope) (cc cd : Addr) : NdefX.NF := ⟨"__init__", qual, args, [], scope, [("__class__", cc)], cd⟩
/-- super().__init__(e), then the rest -/
def tSup (C : Addr) (ta : TA) (tr : TS) : TS := fun D σ H => ∃ a : Addr, σ[0]? = some (some (.ref a)) ∧ H a = some (exo a C none) ∧ ta σ H fun vs H1 => vs.length ≤ 1000 ∧ H1 a = some (exo a C none) ∧ tr D σ H1
/-- how the call is evaluated -/
def SupEv (e : Expr) (p0 p1 p2 p3 : Pos) (env : Env) : Prop := ∃ pl : Sem Bool, eval (.Call (.Attribute (.Call (.Name "super" p0) [] [] p1) "__init__" p2) [e] [] p3) env = (do
      let ov ← attributeBase (.Call (.Name "super" p0) [] [] p1) "__init__" env (eval (.Call (.Name "super" p0) [] [] p1) env)
      standAt p2.atName
      let (f, first) ← holding [ov] (getMethod ov "__init__" pl)
      callWith p3 f first (backTo p3 (starEach [e] env)) [])
theorem Inv.addPin {X : Cx} {pins : List (Addr × Obj)} {σ : L2.St} {H : Hp} {s : Shared} {p : Addr × Obj} (I : Inv X pins σ H s) (h : s.heap.get? p.1 = some p.2 ∧ H p.1 = none ∧ p.1 ≠ X.env.locals ∧ p.1 ∉ X.fs ∧ ∀ v, p.2.data ≠ .cell v) : Inv X (p :: pins) σ H s :=
  ⟨I.ok, I.os, I.bare, I.base, I.loc, I.cell, I.free, I.freeC, fun q hq => by
    rcases List.mem_append.mp hq with hq | hq
    · exact I.pin q (List.mem_append_left _ hq)
    · rcases List.mem_cons.mp hq with rfl | hq
      · exact h
      · exact I.pin q (List.mem_append_right _ hq), I.hok, I.len⟩
theorem Inv.dropPin {X : Cx} {pins : List (Addr × Obj)} {σ : L2.St} {H : Hp} {s : Shared} {p : Addr × Obj} (I : Inv X (p :: pins) σ H s) : Inv X pins σ H s :=
  ⟨I.ok, I.os, I.bare, I.base, I.loc, I.cell, I.free, I.freeC, fun q hq => by
    rcases List.mem_append.mp hq with hq | hq
    · exact I.pin q (List.mem_append_left _ hq)
    · exact I.pin q (List.mem_append_right _ (List.mem_cons_of_mem _ hq)), I.hok, I.len⟩
section
variable {P : Program} {w : World} {K : PySem.W.Frag} {mg : Str → Option Value} {base : Heap} {CX : CXT}
open PySem.W PySem.Calls in
/-- the walk from super() to the rest of the body, over any context -/
theorem sup_run {X : Cx} {C f cc cd : Addr} {fd : FuncData} {file x : Str} {e : Expr} {rest : List Stmt} {p0 p1 p2 p3 p4 : Pos} {σ : L2.St} {H : Hp} {s : Shared} {ta : TA} {tr : TS} {D : Ends} {ar : Arg} {vss : Array Value} {tf : Tok} {oc : Value} {od : Option Addr} {osl : Array (Option Value)} {ccl : Value} {ccd : Option Addr} {ccs : Array (Option Value)} {kcl : Value} {kcd : Option Addr} {kcs : Array (Option Value)} {bd : List Stmt}
    (I : Inv X [] σ H s) (SC : SupC X.K C) (hP : SupP X.prog file) (lk : X.K.lookup f = some ⟨oc, od, .func fd, osl⟩) (hcc : X.K.lookup cc = some ⟨ccl, ccd, .cell (some (.ref C)), ccs⟩) (hco : X.K.lookup cd = some ⟨kcl, kcd, .fields vss, kcs⟩) (hvs : vss[2]? = some (.str file tf))
    (su : X.env.kindOf ("super" : Str) = some .globalImplicit) (cl : X.env.kindOf ("__class__" : Str) = some .free) (lo : X.env.kindOf x = some .local) (vi : Vis X.env.scope x) (hd : (fd.params.posonlyargs ++ fd.params.args).head? = some ar) (hx : ar.arg = x)
    (ef : X.env.func = some f) (ec : X.env.code = .ref cd) (ecl : X.env.cells.lookup ("__class__" : Str) = some cc) (hN : X.N[0]? = some x) (hsu : X.mg "super" = none) (hta : PA X [e] ta) (htr : PSs X rest tr)
    (he : starEach [e] X.env = (false, eval e X.env) :: starEach [] X.env) (hme : SupEv e p0 p1 p2 p3 X.env) (hq : tSup C ta tr D σ H) :
    PySem.wpAt (model X.prog X.w) X.A (.func bd X.env) (execs (.Expr (.Call (.Attribute (.Call (.Name "super" p0) [] [] p1) "__init__" p2) [e] [] p3) p4 :: rest) X.env) (SP X [] D) X.xe s := by
  obtain ⟨a, ha0, hex, hq⟩ := hq
  obtain ⟨nm, qq, N', bs, bm, sn, sub, ab, col, dd, k0, k1, k2, k3, k5, hC, hbm⟩ := SC.ox.cls
  have hcl : clsIn X.K C = some { name := nm, bases := bs, mro := .ref C :: bm, ns := N', qualname := qq, hasDict := true, slotNames := sn, subclasses := sub, abstract := ab, collection := col, hasDel := false } := by unfold clsIn; rw [hC] <;> rfl
  obtain ⟨m, hm, hlk⟩ := id I.loc
  obtain ⟨u0, hu0, lk0⟩ := hlk 0 x (.ref a) hN ha0 vi
  obtain rfl : u0 = Value.ref a := hu0
  have hv : m x = some (.ref a) := by
    rcases lk0 with ⟨_, h⟩ | ⟨h, _⟩
    · exact h
    · rw [lo] at h
      rcases h with h | h <;> cases h
  obtain ⟨t1, hoe⟩ := exo_at I.hok hex
  obtain ⟨mb, hb1, hb2⟩ := I.mod.blt
  have KX := I.kIn
  obtain ⟨hp, g, dr, tk, os⟩ := s
  refine ks_wpAt_execs_cons ?_
  refine ks_wpAt_Expr_any ?_ (by unfold interactive; rw [I.ok.kind]; rfl)
  obtain ⟨pl, hme⟩ := hme
  refine ks_wpAt_MethodCall (pl := pl) ?_ hme
  refine ks_wpAt_super_base (env := X.env) su cl (by decide) ef (KX _ _ lk) rfl hd ec (KX _ _ hco) rfl hvs hP.hfile hP.htop ?_
  refine ks_loadName_global I.ok.kind su (loadGlobal_builtin (by rw [I.ok.glob]; exact I.mod.glob.keeps I.bk) hsu (by rw [I.ok.blt]; exact hb1.keeps I.bk) ((hb2 "super" (by decide)).trans (show bootBuiltins "super" = some (.type "super") from by first | rfl | decide +kernel | kernel_rfl)) ⟨rfl, ?_⟩)
  refine wpAny_loadName_free I.ok.kind cl ecl ⟨_, KX _ _ hcc, rfl⟩ ?_
  refine wpAny_loadName_local I.ok.kind (by rw [hx]; exact lo) hm (by rw [hx]; exact hv) ?_
  refine ks_wpAny_isType_cls (KX _ _ hC) rfl ⟨rfl, ?_⟩
  refine ks_wpAny_call_super (KX _ _ hC) rfl hoe rfl (fun c z => nomatch z) (looks_mroIn KX SC.mro) (fun h2 hso k2 => ?_)
  have I2 : Inv X [] σ H ⟨h2, g, dr, tk, os⟩ := I.kept (t' := tk) k2
  have ho2 := k2 _ _ hoe
  have J2 : InstAt h2 a _ C none := ⟨ho2, rfl, rfl, trivial⟩
  refine kxs_getMethod kxs_ValueError hso (looks_opaque I2.kIn SC.opq) (l₀ := Value.ref C :: bm) (fun A Q E s k q => wpAny_bind ((looks_clsIn I2.kIn hcl) A _ E s k (wpAny_pure q))) rfl I2.kIn (by
    have z := SC.sup
    unfold ks_superIn at z
    rw [hcl] at z
    exact z) (J2.type.andThen (looks_subIn I2.kIn SC.val)) (ks_ne I2.kIn J2 hcl) (by decide) ?_
  obtain ⟨h3, hh3⟩ : ∃ h3, h3 = h2.push (kxs_mw "ValueError.__init__" a) := ⟨_, rfl⟩
  have k3 : ∀ b o, h2.get? b = some o → h3.get? b = some o := fun b o z => by rw [hh3]; exact Heap.get?_push_of_some _ z
  have hmw : h3.get? h2.objs.size = some (kxs_mw "ValueError.__init__" a) := by rw [hh3]; exact Heap.get?_push_at rfl rfl
  rw [← hh3]
  have I3 : Inv X [(h2.objs.size, kxs_mw "ValueError.__init__" a)] σ H ⟨h3, g, dr, tk + 1, os⟩ := by
    refine Inv.addPin (I2.kept (t' := tk + 1) k3) ⟨hmw, I2.hok.fresh (Nat.le_refl _), Ne.symm (Nat.ne_of_lt I2.lt), I2.nofs (Nat.le_refl _), fun v z => nomatch z⟩
  show wpAny _ _ (callWith p3 (.ref h2.objs.size) [] (backTo p3 (starEach [e] X.env)) []) _ _ _
  rw [he]
  refine kxs_callWith (i := "ValueError.__init__") (x := a) rfl (evalArgs_plain ?_)
  have run := hta.run p3 _ _ σ H _ I3 hq
  rw [he] at run
  refine thn run fun us s4 ⟨vs, H4, I4, r4, hlv, ea, q4⟩ => ?_
  obtain ⟨hp4, _⟩ := I4.pin (h2.objs.size, kxs_mw "ValueError.__init__" a) (by simp)
  refine ⟨hp4, ?_⟩
  obtain ⟨t4, hoe4⟩ := exo_at I4.hok ea
  obtain ⟨hp5, g5, d5, tk5, os5⟩ := s4
  have hlen : us.length ≤ sizeLine := by
    rw [← Paired.length r4, sizeLine_eq]
    omega
  refine call_mwVE (I4.kIn _ _ hC) hoe4 hp4 hlen fun h6 t6 k6 hx6 => ?_
  have J := (Inv.dropPin I4).write (t' := tk5) (x := a) (e := a) (o := exo a C none) (by rw [ea]; exact True.intro) (.inl rfl) k6 ⟨_, hx6⟩ (exo_ok hx6)
  have eu : upd H4 a (exo a C none) = H4 := by
    funext b
    by_cases hb : b = a
    · rw [hb, L2.upd_same, ea]
    · rw [L2.upd_ne hb]
  rw [eu] at J
  exact PySem.wpAt_of_wpAny (htr.run [] _ σ H4 D J q4)
theorem fn_sup {k : Nat} {f C : Addr} {fd : FuncData} {file qual x : Str} {args : Arguments} {e : Expr} {rest : List Stmt} {scope : Scope} {p0 p1 p2 p3 p4 : Pos} {N ps : List Str} {sp : Sp}
    (F : SupFun K file C qual args (.Expr (.Call (.Attribute (.Call (.Name "super" p0) [] [] p1) "__init__" p2) [e] [] p3) p4 :: rest) scope f fd) (SC : SupC K C) (hP : SupP P file) (S : NdefX.NScope N ps ["__class__"] scope) (SS : SupS scope args x)
    (hx : N[0]? = some x) (hsu : mg "super" = none) (len : ∀ vs H Q E, sp vs H Q E → vs.length = ps.length)
    (hbody : ∀ (cc cd : Addr) (A : Around) (outer : List Env) (s : Shared) (H : Hp) (vs : List V) (Q : VK) (E : XK), Room k (A.deeper (NdefX.envF (supNF qual args scope cc cd) f s.heap.objs.size)) → sp vs H Q E →
      ∃ ta tr, PA (NdefX.ncx CX P w K mg base N (supNF qual args scope cc cd) f A outer s H E) [e] ta ∧ PSs (NdefX.ncx CX P w K mg base N (supNF qual args scope cc cd) f A outer s H E) rest tr ∧
        tSup C ta tr { nx := fun _ H' => Q .non H', rt := Q } (NdefX.startF N vs [none]) H)
    (he : ∀ env, starEach [e] env = (false, eval e env) :: starEach [] env := by intro _; rfl) (hme : ∀ env, SupEv e p0 p1 p2 p3 env := by intro _; exact ⟨_, rfl⟩) :
    FnOk P w K mg base CX (k + 1) f fd ps sp := by
  refine ⟨len, fun A outer s H args' us vs Q E hr e0 hb r hsp => ?_⟩
  have hl := len _ _ _ _ hsp
  obtain ⟨oc, od, doc, pm, ct, osl, cc, ccl, ccd, ccs, cd, kcl, kcd, kcs, vss, tf, kV, an, rfl, lk, hcd, hcc, hco, hvs⟩ := F.ex
  have KX : K.In s.heap := e0.mod.kin.keeps fun b o e => (e0.bs b o e).1
  have lim : s.heap.NoLimit := e0.mod.nolimit.keeps fun b o e => (e0.bs b o e).1
  refine PySem.ks_codeAny_call_defAt hr.depth (KX _ _ lk) rfl lim (PySem.W.codeRec_of KX hcd) rfl hb S.nocell (fun ⟨n, v⟩ hy => S.par n (List.of_mem_zip hy).1) (fun h₁ hns kp => ?_) S.co S.gen S.kind
  obtain ⟨ta, tr, hta, htr, hq⟩ := hbody cc cd A outer s H vs Q E (hr.deeper _) hsp
  have hb0 := e0.mod.kin _ _ hcc
  have Cx : NdefX.CellsAt [("__class__", cc)] ["__class__"] [none] s.heap H := by
    refine ⟨rfl, fun y c hy => ?_, fun y z c h1 h2 => ?_, fun i y hy => ?_⟩
    · have e1 : c = cc := by
        rw [List.lookup_cons] at hy
        split at hy
        · exact (Option.some.inj hy).symm
        · cases hy
      rw [e1]
      exact ⟨(e0.bs _ _ hb0).2, some (.ref C), _, (e0.bs _ _ hb0).1, rfl⟩
    · have key : ∀ y c, ([("__class__", cc)] : List (Str × Addr)).lookup y = some c → y = "__class__" := fun y c hy => by
        rw [List.lookup_cons] at hy
        split at hy
        · rename_i q
          exact eq_of_beq q
        · cases hy
      rw [key y c h1, key z c h2]
    · cases i with
      | zero =>
        cases hy
        exact ⟨cc, rfl, fun v hv => nomatch hv⟩
      | succ i => cases hy
  have I : Inv (NdefX.ncx CX P w K mg base N (supNF qual args scope cc cd) f A outer s H E) [] (NdefX.startF N vs [none]) H { s with heap := h₁, toks := s.toks + (ps.zip us).length } := NdefX.inv_startN S hr.hd e0 hl r Cx hns kp
  obtain ⟨ar, har, hax⟩ := SS.hd
  have run := sup_run (bd := .Expr (.Call (.Attribute (.Call (.Name "super" p0) [] [] p1) "__init__" p2) [e] [] p3) p4 :: rest) (p0 := p0) (p1 := p1) (p2 := p2) (p3 := p3) (p4 := p4) I SC hP lk hcc hco hvs SS.su SS.cl SS.lo (.inl SS.lo) har hax rfl rfl rfl hx hsu hta htr (he _) (hme _) hq
  refine PySem.ks_wpAt_mono run (fun fl s' hs => ?_) fun e s' hs => hs
  have fin : ∀ {σ' : L2.St} {H' : Hp} {v : V} {u : Value}, Inv (NdefX.ncx CX P w K mg base N (supNF qual args scope cc cd) f A outer s H E) [] σ' H' s' → L2.RelV v u → Q v H' → CE outer P w H s Q u s' :=
    fun {σ' H' v u} J rv q => ⟨v, H', J.os, J.bare, J.base, J.hok, rv, q⟩
  cases fl with
  | ret u =>
    obtain ⟨v, σ', H', J, rv, q⟩ := hs
    exact fin J rv q
  | next =>
    obtain ⟨σ', H', J, q⟩ := hs
    exact fin (v := V.non) (u := Value.none) J rfl q
  | brk =>
    obtain ⟨_, _, _, q⟩ := hs
    exact False.elim q
  | cont =>
    obtain ⟨_, _, _, q⟩ := hs
    exact False.elim q
end
end Od
end
section
set_option Elab.async false
set_option linter.all false
set_option maxRecDepth 100000
set_option maxHeartbeats 4000000
set_option autoImplicit false
/-! own exceptions: made as values, their fields read, asked by isinstance; raised -/
namespace Od
open PySem PySem.Spec PyProof.Rows L2
/-! ### made -/
/-- a class of the module with an __init__ that is walked -/
structure OMk (P : Program) (w : World) (K : PySem.W.Frag) (mg : Str → Option Value) (base : Heap) (j : Nat) (x : Str) (C : Addr) (sp : Sp) : Prop where
  sc : SupC K C
  gl : mg x = some (.ref C)
  ex : ∃ (fI : Addr) (fd : FuncData) (ps : List Str), PySem.W.findIn K (.ref C) "__init__" = some (some (.ref fI)) ∧ PySem.W.typeIn K (.ref fI) = some (.type "function") ∧ FnOk P w K mg base C8.CX0 j fI fd ps sp ∧ Binds K fd ps []
/-- C(e, ..) as a value -/
def tMkV (C : Addr) (sp : Sp) (ta : TA) : TE := fun σ H Q => ta σ H fun vs H1 => vs.length ≤ 1000 ∧ ∀ a, H1 a = none → sp (.ref a :: vs) (upd H1 a (exo a C none)) (fun v H2 => v = .non ∧ Q (.ref a) H2) fun _ _ _ => False
section
variable {X : Cx} {C : Addr} {sp : Sp} {j : Nat} {x : Str} {e : Expr} {es : List Expr} {ta : TA} {p pos : Pos}
theorem run_mkV {pins : List (Addr × Obj)} {σ : L2.St} {H1 : Hp} {s1 : Shared} {us : List Value} {vs : List V} {Q : V → Hp → Prop} (M : OMk X.prog X.w X.K X.mg X.base j x C sp) (hr : Room (j + 1) X.A) (I1 : Inv X pins σ H1 s1) (r1 : Vals vs us) (hz : vs.length ≤ 1000)
    (q1 : ∀ a, H1 a = none → sp (.ref a :: vs) (upd H1 a (exo a C none)) (fun v H2 => v = .non ∧ Q (.ref a) H2) fun _ _ _ => False) :
    wpAny (model X.prog X.w) X.A (call (.ref C) us) (EP X pins σ Q) X.xe s1 := by
  obtain ⟨fI, fd, ps, iC, tI, F1, hb⟩ := M.ex
  obtain ⟨nm, q, N, bs, bm, sn, sub, ab, col, dd, k0, k1, k2, k3, k5, hC, hbm⟩ := M.sc.ox.cls
  obtain ⟨hp, g, dr, tk, os⟩ := s1
  have hsz : hp.objs.size ≤ hp.objs.size + 1 := Nat.le_succ _
  have hn : H1 (hp.objs.size + 1) = none := I1.hok.fresh hsz
  have hq := q1 (hp.objs.size + 1) hn
  have kk : ∀ b o, hp.get? b = some o → ((hp.push (PySem.W.kdv_tup us)).push (PySem.HandSPX.excO C hp.objs.size)).get? b = some o := fun b o e => Heap.get?_push_of_some _ (Heap.get?_push_of_some _ e)
  have hget : ((hp.push (PySem.W.kdv_tup us)).push (PySem.HandSPX.excO C hp.objs.size)).get? (hp.objs.size + 1) = some (PySem.HandSPX.excO C hp.objs.size) := by heap_get
  have I2 : Inv X pins σ (upd H1 (hp.objs.size + 1) (exo (hp.objs.size + 1) C none)) ⟨(hp.push (PySem.W.kdv_tup us)).push (PySem.HandSPX.excO C hp.objs.size), g, dr, tk, os⟩ :=
    I1.laid (t' := tk) (a := hp.objs.size + 1) (o := exo (hp.objs.size + 1) C none) (h' := (hp.push (PySem.W.kdv_tup us)).push (PySem.HandSPX.excO C hp.objs.size)) kk hsz (exo_ok hget)
  have r2 : Vals (V.ref (hp.objs.size + 1) :: vs) (Value.ref (hp.objs.size + 1) :: us) := .cons rfl r1
  have hl : (Value.ref (hp.objs.size + 1) :: us ++ []).length = ps.length := by
    have e := r2.length
    rw [F1.len _ _ _ _ hq] at e
    rw [List.append_nil]
    exact e.symm
  have hus : us.length ≤ sizeLine := by
    rw [← Paired.length r1, sizeLine_eq]
    omega
  refine wpAny_call (PySem.HandSPX.call_own F.excBase_ValueError (fun Y => PySem.HandSPX.refsVE_contains Y bm hbm) (I1.kIn _ _ hC) (PySem.W.looks_findIn I1.kIn iC) (fun self => PySem.W.bind_fn I1.kIn self tI) hus
    (codeAny_mono (F1.run _ X.stack _ _ ⟨Value.ref (hp.objs.size + 1) :: us, []⟩ (Value.ref (hp.objs.size + 1) :: us) _ _ (fun _ _ _ => False) (hr.make C us []) (I2.env0.make C us []) (by
      have z := hb _ (Value.ref (hp.objs.size + 1) :: us) I2.kIn hl
      rw [List.append_nil] at z
      exact z) r2 hq) fun r s' hq' => ?_))
  cases r with
  | error er => exact hq'.elim
  | ok fl =>
    cases fl with
    | ret u =>
      obtain ⟨v, H2, os2, bare2, un2, hok2, rv, ev, q2⟩ := hq'
      subst ev
      exact ⟨rv, I2.after (u := .ref (hp.objs.size + 1)) (Q := Q) ⟨.ref (hp.objs.size + 1), H2, os2, bare2, un2, hok2, rfl, q2⟩⟩
    | next => exact False.elim hq'
    | brk => exact False.elim hq'
    | cont => exact False.elim hq'
theorem pe_mkV (M : OMk X.prog X.w X.K X.mg X.base j x C sp) (hr : Room (j + 1) X.A) (hg : Gl X x) (ha : PA X (e :: es) ta)
    (hdb : (x == ("__debug__" : Str)) = false := by decide) (he : starEach (e :: es) X.env = (false, eval e X.env) :: starEach es X.env := by rfl) (hpl : (backTo pos (starEach es X.env)).any (·.1) = false := by rfl) :
    PE X (.Call (.Name x p) (e :: es) [] pos) (tMkV C sp ta) := by
  refine ⟨fun pins s σ H Q I h => ?_⟩
  refine wpAny_Call_Name_kw (ld_glob I hg M.gl ?_ hdb)
  refine PySem.W.callWith_K (h₀ := X.base) I.ok.mod.kin M.sc.ox.kC (thn (ha.run pos pins s σ H _ I h) fun us s1 ⟨vs, H1, I1, r1, hlv, q1⟩ => ⟨I1.kIn, ?_⟩) he hpl
  exact run_mkV M hr I1 r1 hlv q1
theorem pe_mkV0 (M : OMk X.prog X.w X.K X.mg X.base j x C sp) (hr : Room (j + 1) X.A) (hg : Gl X x) (hdb : (x == ("__debug__" : Str)) = false := by decide) :
    PE X (.Call (.Name x p) [] [] pos) (tMkV C sp tNil) := by
  refine ⟨fun pins s σ H Q I h => ?_⟩
  refine wpAny_Call_Name_kw (ld_glob I hg M.gl ?_ hdb)
  obtain ⟨hlv, q1⟩ := h
  exact PySem.W.callWith_K0 I.kIn M.sc.ox.kC (run_mkV (us := []) M hr I .nil hlv q1)
end
/-- such a class of the module as it stands behind the top -/
structure SupOf (K : PySem.W.Frag) (mg : Str → Option Value) (x : Str) (C : Addr) (qual : Str) (st : Stmt) (ps : List Str) : Prop where
  sc : SupC K C
  gl : mg x = some (.ref C)
  ex : ∃ (f : Addr) (fd : FuncData), PySem.W.findIn K (.ref C) "__init__" = some (some (.ref f)) ∧ PySem.W.typeIn K (.ref f) = some (.type "function") ∧ SupFun K "/claim/cut.py" C qual (C8.fnArgs st) (C8.fnBody st) (C8.fnScope st) f fd ∧ Binds K fd ps []
/-! ### an exception that is made, by its class and fields -/
/-- at a: an exception of the class C with these fields -/
inductive ErrAt (H : Hp) (a C : Addr) : List (Str × V) → Prop where
  | no (h : H a = some (exo a C none)) : ErrAt H a C []
  | is (d : Addr) (fs : List (Str × V)) (h : H a = some (exo a C (some d))) (hd : H d = some (exd d fs)) : ErrAt H a C fs
theorem ErrAt.le {H H' : Hp} {a C : Addr} {fs : List (Str × V)} (e : ErrAt H a C fs) (l : ∀ b o, H b = some o → H' b = some o) : ErrAt H' a C fs := by
  cases e with
  | no h => exact .no (l _ _ h)
  | is d fs h hd => exact .is d fs (l _ _ h) (l _ _ hd)
section
open PySem.W
variable {prog : Program} {w : World} {A : Around} {E : Value → Shared → Prop} {s : Shared} {K : Frag} {x D : Addr} {ox : Obj} {od : Option Obj}
theorem findObj_dataO {C : Addr} {name : Str} {a g : Value} (hc : (clsIn K C).isSome = true) (ha : findIn K (.ref C) name = some (some a)) (hg : specialIn K a "__get__" = some (some g)) (ht : takesIn K a = some true) : findObj K C od name = some (.bind g a) := by
  obtain ⟨cd, hc⟩ := Option.isSome_iff_exists.mp hc
  unfold findObj
  rw [hc, Option.bind_some, ha, Option.bind_some]
  simp [hg, ht]
theorem kin_classO {Q : Option Value → Shared → Prop} (C : ExcC K D) (X : K.In s.heap) (I : InstAt s.heap x ox D od) (h : Q (some (.ref D)) { s with toks := s.toks + 1 }) : wpAny (model prog w) A (getAttr? (.ref x) "__class__") Q E s := by
  obtain ⟨hga, hgt, hsub, hdct, ha, hn, htk, hm⟩ := C
  have hf : findObj K D od "__class__" = some (.bind (.builtin "getset_descriptor.__get__") (.builtin "object.__class__")) := findObj_dataO (by obtain ⟨cd, hc, _⟩ := any_some hdct; rw [hc]; rfl) ha hn htk
  obtain ⟨hp, g, d, t, os⟩ := s
  have L0 := I.type (M := model prog w)
  have L1 := looks_findIn (M := model prog w) X hga
  have L2 := looks_findIn (M := model prog w) X hgt
  have L3 := looks_find (M := model prog w) X I hf
  have sub : Looks (model prog w) hp (isInstance (.ref x) (.type "BaseException")) true := L0.andThen (looks_subIn X hsub)
  have hx0 : (false && onTheHeap (Value.builtin "BaseException.__getattribute__")) = false := rfl
  have hx2 : (Value.builtin "BaseException.__getattribute__" == Value.builtin "object.__getattribute__") = false := by decide +kernel
  have hx1 : (onTheHeap (Value.ref D) && Value.builtin "BaseException.__getattribute__" == Value.builtin "object.__getattribute__") = false := by rw [hx2]; rfl
  unfold getAttr? getAttrBy? getAttrBy
  refine wpAny_bind (wpAny_mkText (wpAny_bind (wpAny_attempt (wpAny_holding (wpAny_bind (L0.at (wpAny_bind (L1.at ?_))))))))
  show wpAny _ _ (if (onTheHeap (Value.ref D) && Value.builtin "BaseException.__getattribute__" == Value.builtin "object.__getattribute__") = true then _ else _) _ _ _
  rw [hx1, if_neg Bool.false_ne_true]
  unfold getAttrByItsOwn hookBefore
  refine wpAny_bind ?_
  rw [if_pos (show onTheHeap (Value.ref D) = true from rfl)]
  refine L2.at ?_
  refine wpAny_bind (wpAny_attempt (wpAny_holding ?_))
  unfold callGetattribute
  rw [hx0, if_neg Bool.false_ne_true]
  unfold boundAndCalled
  rw [PySem.F.excAttr_ValueError.ga.bind (.ref x)]
  refine wpAny_bind (wpAny_pure ?_)
  show wpAny _ _ (call (.builtin "BaseException.__getattribute__") [.ref x, .str "__class__" t]) _ _ _
  refine wpAny_call (codeAny_call_builtin PySem.F.excAttr_ValueError.ga.plain PySem.F.entry_bexc_ga ?_)
  refine @check_slot (model prog w) _ _ ⟨hp, g, d, t + 1, os⟩ "BaseException.__getattribute__" "BaseException" "__getattribute__" (.ref x) [.str "__class__" t] [] _ (by decide +kernel) (by decide +kernel) sub (PySem.F.args_bexc_ga (.ref x) (.str "__class__" t)) ?_
  unfold Builtin.«object.__getattribute__»
  refine wpAny_bind (wpAny_of_eq (a := ((Value.ref x : Value), [Value.str "__class__" t])) (by first | rfl | (simp only [slotArgs]; rfl)) ?_)
  refine wpAny_bind (wpAny_pure (wpAny_bind (L0.at (wpAny_bind (L3.at ?_)))))
  show wpAny _ _ (holding [Value.builtin "object.__class__"] (call (.builtin "getset_descriptor.__get__") [.builtin "object.__class__", .ref x, .ref D]) >>= ret) _ _ _
  refine wpAny_bind (wpAny_holding (wpAny_call (class_get (s := ⟨hp, g, d, t + 1, os⟩) (ox := ox) (od := od) X I hm ?_)))
  refine wpAny_pure ?_
  show wpAny _ _ (handedOut (.ref D)) _ _ _
  rw [handedOut_of (v := .ref D) rfl]
  first
    | exact wpAny_pure (wpAny_pure h)
    | exact wpAny_pure h
    | exact wpAny_pure (wpAny_bind (wpAny_pure (wpAny_pure h)))
theorem kitxO (C : ExcC K D) : KitX K (.ref x) (.ref D) (fun h => ∃ ox od, InstAt h x ox D od) where
  ty := fun _ _ _ ⟨_, _, I⟩ => I.type
  it := fun _ _ X _ => by
    obtain ⟨cdD, hcD, _⟩ := any_some C.hd
    unfold clsIn at hcD
    split at hcD
    · rename_i c' d' cd' sl' ho
      intro A' Q' E' s' k q
      unfold isType loadHead
      exact wpAny_bind (wpAny_loadPart (k _ _ (X _ _ ho)) (wpAny_pure q))
    · cases hcD
  ne := fun h tp dd its n sl X htp => by
    obtain ⟨cdD, hcD, _⟩ := any_some C.hd
    refine Bool.eq_false_iff.mpr fun q => ?_
    have e : D = tp := Value.ref.inj (beq_iff_eq.mp q)
    subst e
    unfold clsIn at hcD
    split at hcD
    · rename_i c' d' cd' sl' ho
      have z := (X _ _ ho).symm.trans htp
      cases z
    · cases hcD
  ca := fun X ⟨_, _, I⟩ k => kin_classO C X I k
end
section
variable {X : Cx}
theorem ErrAt.inst {pins : List (Addr × Obj)} {σ : L2.St} {H : Hp} {s : Shared} {a C : Addr} {fs : List (Str × V)} (I : Inv X pins σ H s) (e : ErrAt H a C fs) : ∃ ox od, PySem.W.InstAt s.heap a ox C od := by
  cases e with
  | no h =>
    obtain ⟨t, ho⟩ := exo_at I.hok h
    exact ⟨_, none, ho, rfl, rfl, trivial⟩
  | is d fs h hd =>
    obtain ⟨t, ho⟩ := exo_at I.hok h
    obtain ⟨mA, ⟨od, es, ep, hod, _⟩, _⟩ := exd_at I.hok hd
    exact ⟨_, some od, ho, rfl, rfl, hod⟩
/-- isinstance(e, c), e an exception that is held as a value -/
def rIsX (K : PySem.W.Frag) : List V → Hp → VK → Prop := fun xs H Q => ∃ (a C : Addr) (fs : List (Str × V)) (c : V) (cv : Value) (b : Bool), xs = [.ref a, c] ∧ ErrAt H a C fs ∧ ExcC K C ∧ (∀ u, L2.RelV c u → u = cv) ∧ PySem.W.kitOne K (.ref C) cv = some b ∧ Q (.bl b) H
theorem call_isX : CallR X (.builtin "isinstance") (rIsX X.K) := by
  intro pins s σ H xs us Q I r h
  obtain ⟨a, C, fs, c, cv, b, rfl, ea, ec, hcv, e, q⟩ := h
  cases r with
  | cons rx rr =>
    cases rr with
    | cons rt rr =>
      cases rr
      cases rx
      have ecv := hcv _ rt
      subst ecv
      exact PySem.W.kia_one (kitxO ec) I.kIn (ea.inst I) e (fun z => nomatch z) fun tk => ⟨.bl b, H, I.kept (t' := tk) fun _ _ z => z, rfl, q⟩
/-- e.f, e an exception that is held as a value -/
def tExf (K : PySem.W.Frag) (n : Str) (te : TE) : TE := fun σ H Q => te σ H fun x H1 => ∃ (a C : Addr) (fs : List (Str × V)) (v : V), x = .ref a ∧ ErrAt H1 a C fs ∧ XfC K C ∧ PySem.W.findIn K (.ref C) n = some none ∧ fs.lookup n = some v ∧ Q v H1
theorem pe_exf {e : Expr} {te : TE} {pos : Pos} {n : Str} (he : PE X e te) (hb : attributeBase e n X.env (eval e X.env) = eval e X.env := by rfl) : PE X (.Attribute e n pos) (tExf X.K n te) := by
  refine ⟨fun pins s σ H Q I h => ?_⟩
  refine attr_of hb (thn (he.run pins s σ H _ I h) fun u s1 hh => ?_)
  obtain ⟨x, H1, I1, rx, a, C, fs, v, ex, ea, T, hno, l, q⟩ := hh
  subst ex
  obtain rfl : u = Value.ref a := rx
  cases ea with
  | no h => cases l
  | is d fs h hd =>
    obtain ⟨t, ho⟩ := exo_at I1.hok h
    obtain ⟨mA, hns, hr⟩ := exd_at I1.hok hd
    obtain ⟨od, hod, hl⟩ := lookIn_ns hns
    obtain ⟨u, hu, ru⟩ := RelO.some_of (v := v) (o := mA n) (by rw [← l]; exact hr n)
    have J : PySem.W.InstAt s1.heap a _ C (some od) := ⟨ho, rfl, rfl, hod⟩
    exact HandSPX.exc_get I1.kIn J T.ga T.gg T.exC (PySem.W.findObj_own T.hdC hno rfl (by rw [hl, hu])) (handed_of ru) ⟨v, H1, I1.tok _, ru, q⟩
/-! ### the text of a flat value -/
inductive ReprV : V → Str → Prop where
  | int (i : Int) (h : i.natAbs.log2 < 1920) : ReprV (.int i) (Str.ofString (toString i))
  | str (x : Str) (h : (PySem.reprText x).length ≤ sizeLine) : ReprV (.str x) (PySem.reprText x)
  | bl (b : Bool) : ReprV (.bl b) (if b then "True" else "False")
  | non : ReprV .non "None"
def rReprF : List V → Hp → VK → Prop := fun xs H Q => ∃ v t, xs = [v] ∧ ReprV v t ∧ Q (.str t) H
theorem call_reprF : CallR X (.builtin "repr") rReprF := by
  intro pins s σ H xs us Q I r h
  obtain ⟨v, t, rfl, rv, q⟩ := h
  obtain ⟨u, rfl, hu⟩ := vals1 r
  cases rv with
  | int i hz =>
    obtain ⟨tk, rfl⟩ := hu
    exact PySem.P.repr_of_int hz ⟨.str _, H, I.tok _, ⟨_, rfl⟩, q⟩
  | str x hz =>
    obtain ⟨tk, rfl⟩ := hu
    exact PySem.P.repr_of_str ⟨.str _, H, I.tok _, ⟨_, rfl⟩, q⟩ hz
  | bl b =>
    obtain rfl : u = Value.bool b := hu
    exact PySem.P.repr_of_bool ⟨.str _, H, I.tok _, ⟨_, rfl⟩, q⟩
  | non =>
    obtain rfl : u = Value.none := hu
    exact PySem.P.repr_of_none ⟨.str _, H, I.tok _, ⟨_, rfl⟩, q⟩
end
end Od
end
section
set_option Elab.async false
set_option linter.all false
set_option maxRecDepth 100000
set_option maxHeartbeats 2000000
set_option autoImplicit false
/-! the head: facts by places of one's own -/
namespace Od
open PySem PySem.Spec PyProof.Rows L2 He
/-- a def: where it stands, its name, its qualified name, its statement -/
structure DefE where
  ad : PySem.W.Frag → Addr
  name : Str
  qual : Str
  st : Stmt
  sup : Option Str := none
/-- a def of the module, a method of a class, a classmethod -/
def dG (x : Str) (st : Stmt) : DefE := ⟨fun K => ga K x, x, x, st, none⟩
def dM (c m : Str) (q : Str) (st : Stmt) : DefE := ⟨fun K => ma K (ga K c) m, m, q, st, none⟩
def cmF (K : PySem.W.Frag) (c m : Str) : Addr := match PySem.W.recIn K (ma K (ga K c) m) "classmethod" with
  | some (.ref g :: _) => g
  | _ => 0
def dC (c m : Str) (q : Str) (st : Stmt) : DefE := ⟨fun K => cmF K c m, m, q, st, none⟩
/-- the __init__ of an own exception class, which keeps the class in a cell -/
def dS (c : Str) (q : Str) (st : Stmt) : DefE := ⟨fun K => ma K (ga K c) "__init__", "__init__", q, st, some c⟩
def fnA (K : PySem.W.Frag) (d : DefE) : FnW := match K.lookup (d.ad K) with
  | some ⟨_, _, .func fd, _⟩ => some (fd.name, fd.qualname, fd.params, fd.body, fd.scope, fd.globals, (match d.sup with | none => fd.closure | some _ => []), fd.builtins)
  | _ => none
def isNone : Value → Bool
  | .none => true
  | _ => false
theorem isNone_ok {v : Value} (h : isNone v = true) : v = .none := by
  cases v with
  | none => rfl
  | _ => cases h
def DefE.val (d : DefE) : FnW := some (d.name, d.qual, C8.fnArgs d.st, .stmts (C8.fnBody d.st), C8.fnScope d.st, mainGlobals, [], builtinsNs)
/-- the cell that holds the class, the code object that names its file -/
def cellB (K : PySem.W.Frag) (fd : FuncData) (C : Addr) : Bool := match fd.closure, fd.code with
  | [(n, cc)], .ref cd => decide (n = "__class__") && ((match K.lookup cc with
    | some ⟨_, _, .cell (some (.ref D)), _⟩ => decide (D = C)
    | _ => false) && (match K.lookup cd with
    | some ⟨_, _, .fields vs, _⟩ => (match (vs[2]? : Option Value) with
      | some (.str file _) => decide (file = "/claim/cut.py")
      | _ => false)
    | _ => false))
  | _, _ => false
def DefE.ok (K : PySem.W.Frag) (d : DefE) : Bool := PySem.W.keepIn K (.ref (d.ad K)) && (match K.lookup (d.ad K) with
  | some ⟨_, _, .func fd, _⟩ => PySem.W.codeIn K fd.code d.qual && (isNone fd.defaults && (match d.sup with
    | none => true
    | some c => cellB K fd (ga K c)))
  | _ => false)
theorem DefE.sup_ {K : PySem.W.Frag} {d : DefE} {cl : Str} (hs : d.sup = some cl) (hn : d.name = "__init__") (e : fnA K d = d.val) (c : d.ok K = true) : ∃ fd, SupFun K "/claim/cut.py" (ga K cl) d.qual (C8.fnArgs d.st) (C8.fnBody d.st) (C8.fnScope d.st) (d.ad K) fd := by
  obtain ⟨kp, c2⟩ := ba c
  unfold fnA at e
  cases q : K.lookup (d.ad K) with
  | none =>
    rw [q] at c2
    cases c2
  | some o =>
    obtain ⟨oc, od, dt, osl⟩ := o
    rw [q] at c2 e
    cases dt with
    | func fd =>
      rw [hs] at c2 e
      obtain ⟨n1, n2, n3, n4, n5, n6, n7, n8, n9, n10, n11, n12, n13, n14, n15⟩ := fd
      have e2 : (some (n1, n2, n3, n4, n5, n6, [], n15) : FnW) = some (d.name, d.qual, C8.fnArgs d.st, .stmts (C8.fnBody d.st), C8.fnScope d.st, mainGlobals, [], builtinsNs) := e
      simp only [Option.some.injEq, Prod.mk.injEq, true_and] at e2
      obtain ⟨h1, h2, h3, h4, h5, h6, h8⟩ := e2
      subst h1 h2 h3 h4 h5 h6 h8
      obtain ⟨k1, k⟩ := ba (show (PySem.W.codeIn K n13 d.qual && (isNone n8 && cellB K ⟨d.name, d.qual, C8.fnArgs d.st, .stmts (C8.fnBody d.st), C8.fnScope d.st, mainGlobals, n7, n8, n9, n10, n11, n12, n13, n14, builtinsNs⟩ (ga K cl))) = true from c2)
      obtain ⟨k2, k3⟩ := ba k
      unfold cellB at k3
      dsimp only at k3
      split at k3
      · rename_i n cc cd
        obtain ⟨k4, k5⟩ := ba k3
        obtain ⟨k6, k7⟩ := ba k5
        split at k6
        · rename_i ccl ccd D ccs q2
          split at k7
          · rename_i kcl kcd vs kcs q3
            split at k7
            · rename_i file tf q4
              have z1 := of_decide_eq_true k4
              have z2 := of_decide_eq_true k6
              have z3 := of_decide_eq_true k7
              subst z1 z2 z3
              have z4 := isNone_ok k2
              subst z4
              refine ⟨_, oc, od, n10, n11, n14, osl, cc, ccl, ccd, ccs, cd, kcl, kcd, kcs, vs, tf, n9, n12, ?_, q, k1, q2, q3, q4⟩
              rw [hn]
            · cases k7
          · cases k7
        · cases k6
      · cases k3
    | _ => cases c2
theorem DefE.fun_ {K : PySem.W.Frag} {d : DefE} (hs : d.sup = none) (e : fnA K d = d.val) (c : d.ok K = true) : ∃ fd, C8.Fun K d.name d.qual d.st (d.ad K) fd ∧ fd.defaults = .none ∧ PySem.W.keepIn K (.ref (d.ad K)) = true := by
  obtain ⟨kp, c2⟩ := ba c
  unfold fnA at e
  cases q : K.lookup (d.ad K) with
  | none =>
    rw [q] at c2
    cases c2
  | some o =>
    obtain ⟨oc, od, dt, osl⟩ := o
    rw [q] at c2 e
    cases dt with
    | func fd =>
      rw [hs] at c2 e
      obtain ⟨n1, n2, n3, n4, n5, n6, n7, n8, n9, n10, n11, n12, n13, n14, n15⟩ := fd
      have e2 : (some (n1, n2, n3, n4, n5, n6, n7, n15) : FnW) = some (d.name, d.qual, C8.fnArgs d.st, .stmts (C8.fnBody d.st), C8.fnScope d.st, mainGlobals, [], builtinsNs) := e
      simp only [Option.some.injEq, Prod.mk.injEq] at e2
      obtain ⟨h1, h2, h3, h4, h5, h6, h7, h8⟩ := e2
      subst h1 h2 h3 h4 h5 h6 h7 h8
      obtain ⟨k1, k⟩ := ba (show (PySem.W.codeIn K n13 d.qual && (isNone n8 && true)) = true from c2)
      obtain ⟨k2, _⟩ := ba k
      exact ⟨_, ⟨oc, od, n8, n9, n10, n11, n12, n13, n14, osl, rfl, q, k1⟩, isNone_ok k2, kp⟩
    | _ => cases c2
def asX0 (g : Addr → Option Obj) : Nat → List Addr
  | 0 => [mainGlobals, 2]
  | n + 1 => growD g (asX0 g n)
/-- .. and the cells of the functions -/
def asX (g : Addr → Option Obj) (n : Nat) : List Addr := asX0 g n ++ (asX0 g n).flatMap fun a => match g a with
  | some ⟨_, _, .func fd, _⟩ => fd.closure.map (·.2)
  | _ => []
abbrev AlE : Type := Bool × List FnW
def obsE (mo : PySem.W.Frag → Bool) (fn : List DefE) (K : PySem.W.Frag) : AlE := (mo K && fn.all fun d => d.ok K, fn.map fun d => fnA K d)
def valE (fn : List DefE) : AlE := (true, fn.map DefE.val)
def obsEG (n : Nat) (mo : PySem.W.Frag → Bool) (fn : List DefE) (g : Addr → Option Obj) : AlE := obsE mo fn (frG g (asX g n))
def hookE (n : Nat) (mo : PySem.W.Frag → Bool) (fn : List DefE) : PySem.W.Hook where
  α := AlE
  obs := fun s => obsEG n mo fn s.heap.get?
  val := fun _ => valE fn
  says := fun _ h => ∃ K : PySem.W.Frag, K.In h ∧ obsE mo fn K = valE fn
  of := fun _ _ e => ⟨_, frG_in, e⟩
  keeps := fun _ _ _ ⟨K, hK, c⟩ k => ⟨K, PySem.W.Frag.In.keeps hK k, c⟩
theorem obsEG_eq {n : Nat} {mo : PySem.W.Frag → Bool} {fn : List DefE} {g : Addr → Option Obj} {s : Shared} (h : ∀ a, g a = s.heap.get? a) : obsEG n mo fn g = (hookE n mo fn).obs s := by
  have e : g = s.heap.get? := funext h
  rw [e] <;> rfl
section
variable {mo : PySem.W.Frag → Bool} {fn : List DefE} {K : PySem.W.Frag}
theorem saysE_mo (c : obsE mo fn K = valE fn) : mo K = true := (ba (show (mo K && fn.all fun d => d.ok K) = true from congrArg (fun z : AlE => z.1) c)).1
theorem saysE_sup (c : obsE mo fn K = valE fn) (i : Nat) {d : DefE} {cl : Str} (h : fn[i]? = some d := by rfl) (hs : d.sup = some cl := by rfl) (hn : d.name = "__init__" := by rfl) : ∃ fd, SupFun K "/claim/cut.py" (ga K cl) d.qual (C8.fnArgs d.st) (C8.fnBody d.st) (C8.fnScope d.st) (d.ad K) fd := by
  have c2 := (ba (show (mo K && fn.all fun d => d.ok K) = true from congrArg (fun z : AlE => z.1) c)).2
  have e : fn.map (fun d => fnA K d) = fn.map DefE.val := congrArg (fun z : AlE => z.2) c
  have e2 : (fn.map fun d => fnA K d)[i]? = (fn.map DefE.val)[i]? := by rw [e]
  rw [List.getElem?_map, List.getElem?_map, h] at e2
  exact DefE.sup_ hs hn (Option.some.inj e2) (List.all_eq_true.mp c2 d (List.mem_of_getElem? h))
theorem saysE_def (c : obsE mo fn K = valE fn) (i : Nat) {d : DefE} (h : fn[i]? = some d := by rfl) (hsn : d.sup = none := by rfl) : ∃ fd, C8.Fun K d.name d.qual d.st (d.ad K) fd ∧ fd.defaults = .none ∧ PySem.W.keepIn K (.ref (d.ad K)) = true := by
  have c2 := (ba (show (mo K && fn.all fun d => d.ok K) = true from congrArg (fun z : AlE => z.1) c)).2
  have e : fn.map (fun d => fnA K d) = fn.map DefE.val := congrArg (fun z : AlE => z.2) c
  have e2 : (fn.map fun d => fnA K d)[i]? = (fn.map DefE.val)[i]? := by rw [e]
  rw [List.getElem?_map, List.getElem?_map, h] at e2
  exact DefE.fun_ hsn (Option.some.inj e2) (List.all_eq_true.mp c2 d (List.mem_of_getElem? h))
end
/-! ### what is read off -/
/-- the Bool facts: plain ones by place, and one more -/
def moF (fa : List Fa) (ex : PySem.W.Frag → List Bool) (K : PySem.W.Frag) : Bool := (fa.all fun f => f.ok K) && (ex K).all id
theorem moF_fact {fa : List Fa} {ex : PySem.W.Frag → List Bool} {K : PySem.W.Frag} (h : moF fa ex K = true) (i : Nat) {f : Fa} (e : fa[i]? = some f := by rfl) : f.ok K = true :=
  List.all_eq_true.mp (ba h).1 f (List.mem_of_getElem? e)
theorem moF_ex {fa : List Fa} {ex : PySem.W.Frag → List Bool} {K : PySem.W.Frag} (h : moF fa ex K = true) (i : Nat) {b : Bool} (e : (ex K)[i]? = some b := by rfl) : b = true :=
  List.all_eq_true.mp (ba h).2 b (List.mem_of_getElem? e)
section
variable {K : PySem.W.Frag} {h : Heap} {mg : Str → Option Value}
abbrev BindQ (x qual : Str) (st : Stmt) (ps : List Str) : Prop := ∀ (kV doc pm : Value) (an : Option Addr) (cdv ct : Value) (us : List Value), us.length = ps.length → bindArgs (PySem.W.fnOf x qual (C8.fnArgs st) (C8.fnBody st) (C8.fnScope st) .none kV doc pm an cdv ct) ⟨us, []⟩ = pure (ps.zip us)
theorem defOf_ (X : K.In h) (G : h.Ns mainGlobals mg) {x : Str} {st : Stmt} {ps : List Str} (c1 : (Fa.glo x).ok K = true) (c2 : ∃ fd, C8.Fun K (dG x st).name (dG x st).qual (dG x st).st ((dG x st).ad K) fd ∧ fd.defaults = .none ∧ PySem.W.keepIn K (.ref ((dG x st).ad K)) = true) (hb : BindQ x x st ps) : DefOf K mg x st ps := by
  obtain ⟨fd, F, df, kp⟩ := c2
  exact ⟨_, fd, ⟨F, glo_ok X G c1, kp⟩, C8.Fun.binds F df hb⟩
theorem metOf_ {c m q : Str} {st : Stmt} {ps : List Str} (c1 : (Fa.meth c m).ok K = true) (c2 : ∃ fd, C8.Fun K (dM c m q st).name (dM c m q st).qual (dM c m q st).st ((dM c m q st).ad K) fd ∧ fd.defaults = .none ∧ PySem.W.keepIn K (.ref ((dM c m q st).ad K)) = true) (hb : BindQ m q st ps) : MetOf K (ga K c) m q st ps := by
  obtain ⟨fd, F, df, kp⟩ := c2
  exact ⟨_, fd, meth_ok c1, F, C8.Fun.binds F df hb⟩
theorem makOf_ {c q : Str} {st : Stmt} {ps : List Str} (c1 : (Fa.mkr c).ok K = true) (c2 : ∃ fd, C8.Fun K (dM c "__init__" q st).name (dM c "__init__" q st).qual (dM c "__init__" q st).st ((dM c "__init__" q st).ad K) fd ∧ fd.defaults = .none ∧ PySem.W.keepIn K (.ref ((dM c "__init__" q st).ad K)) = true) (hb : BindQ "__init__" q st ps) : MakOf K (ga K c) q st ps := by
  obtain ⟨fd, F, df, kp⟩ := c2
  exact ⟨_, fd, mkr_ok c1, F, C8.Fun.binds F df hb⟩
/-- a class is read as its type reads it -/
def crdB (K : PySem.W.Frag) (c : Str) : Bool := PySem.W.readsIn K (ga K c) (.type "type") && eqO (PySem.W.specialIn K (.ref (ga K c)) "__getattribute__") (some (some (.builtin "type.__getattribute__")))
theorem crd_ok {c : Str} (e : crdB K c = true) : ClX.CRead K (ga K c) (.type "type") := by
  obtain ⟨e1, e2⟩ := ba e
  exact ⟨e1, eqO_ok e2⟩
/-- a classmethod of a class -/
def clmB (K : PySem.W.Frag) (c m : Str) : Bool := (match PySem.W.findCls K (.ref (ga K c)) (.type "type") m with
  | some (.get (.builtin s) (.ref p) .none (.ref d)) => decide (s = "classmethod.__get__") && (decide (p = ma K (ga K c) m) && decide (d = ga K c))
  | _ => false) && ((match PySem.W.recIn K (ma K (ga K c) m) "classmethod" with
  | some (.ref _ :: _) => true
  | _ => false) && PySem.W.fnIn K (cmF K c m))
theorem clm_ok {c m : Str} (e : clmB K c m = true) : ClX.CMet K (ga K c) (.type "type") m (ma K (ga K c) m) (cmF K c m) := by
  obtain ⟨e1, e⟩ := ba e
  obtain ⟨e2, e3⟩ := ba e
  refine ⟨?_, ?_, e3⟩
  · split at e1
    · rename_i s p d q
      obtain ⟨h1, h⟩ := ba e1
      obtain ⟨h2, h3⟩ := ba h
      rw [q, of_decide_eq_true h1, of_decide_eq_true h2, of_decide_eq_true h3]
    · cases e1
  · unfold cmF
    split at e2
    · rename_i g rest q
      rw [q]
      exact ⟨rest, rfl⟩
    · cases e2
theorem clmOf_ {c m q : Str} {st : Stmt} {ps : List Str} (c0 : crdB K c = true) (c1 : clmB K c m = true) (c2 : ∃ fd, C8.Fun K (dC c m q st).name (dC c m q st).qual (dC c m q st).st ((dC c m q st).ad K) fd ∧ fd.defaults = .none ∧ PySem.W.keepIn K (.ref ((dC c m q st).ad K)) = true) (hb : BindQ m q st ps) : ClmOf K (ga K c) m q st ps := by
  obtain ⟨fd, F, df, kp⟩ := c2
  exact ⟨_, _, _, fd, crd_ok c0, clm_ok c1, F, C8.Fun.binds F df hb⟩
/-! ### own exception classes -/
def oexB (K : PySem.W.Frag) (C : Addr) : Bool := (match K.lookup C with
  | some ⟨.type "type", _, .cls cd, sl⟩ => (match cd.mro, sl.toList with
    | .ref C' :: bm, [_, _, _, _, some (.builtin n), _] => decide (C' = C) && (decide (n = "ValueError.__new__") && (!cd.hasDel && (cd.hasDict && PySem.HandSPX.refsVE bm)))
    | _, _ => false)
  | _ => false) && (eqO (PySem.W.findIn K (.ref C) "__setattr__") (some (some (.builtin "object.__setattr__"))) && (decide (PySem.W.subIn K (.ref C) (.type "BaseException") = some true) && (decide (PySem.W.typeIn K (.ref C) = some (.type "type")) && PySem.W.keepIn K (.ref C))))
theorem oex_ok {C : Addr} (q : oexB K C = true) : OexC K C := by
  obtain ⟨q, q2⟩ := ba q
  obtain ⟨q3, q2⟩ := ba q2
  obtain ⟨q4, q2⟩ := ba q2
  obtain ⟨q5, q6⟩ := ba q2
  refine ⟨?_, eqO_ok q3, of_decide_eq_true q4, of_decide_eq_true q5, q6⟩
  split at q
  · rename_i dd cd sl ho
    split at q
    · rename_i C' bm k0 k1 k2 k3 n k5 hm hs
      simp only [Bool.and_eq_true, decide_eq_true_eq, Bool.not_eq_true'] at q
      obtain ⟨rfl, rfl, hdel, hdict, ht⟩ := q
      obtain ⟨nm, bs, mro, ns, qn, hd, sn, sub, ab, col, del⟩ := cd
      dsimp only at hm hdel hdict
      subst hm hdel hdict
      have hsl : sl = #[k0, k1, k2, k3, some (.builtin "ValueError.__new__"), k5] := by
        obtain ⟨l⟩ := sl
        simp only at hs
        rw [hs]
      subst hsl
      exact ⟨nm, qn, ns, bs, bm, sn, sub, ab, col, dd, k0, k1, k2, k3, k5, ho, ht⟩
    · cases q
  · cases q
def supB (K : PySem.W.Frag) (c : Str) : Bool := oexB K (ga K c) && (xfB K (ga K c) && (eqO (PySem.W.findIn K (.ref (ga K c)) "__class__") (some (some (.builtin "object.__class__"))) && (eqO (PySem.W.specialIn K (.builtin "object.__class__") "__get__") (some (some (.builtin "getset_descriptor.__get__"))) &&
  (decide (PySem.W.takesIn K (.builtin "object.__class__") = some true) && (decide (PySem.W.mroIn K (ga K c) (.type "object") = some true) && (decide (PySem.W.mroIn K (ga K c) (.ref (ga K c)) = some true) && (eqO (PySem.W.ks_superIn K (ga K c) (ga K c) "__init__") (some (some (.builtin "ValueError.__init__"))) &&
  (decide (PySem.W.subIn K (.ref (ga K c)) (.type "ValueError") = some true) && eqO (PySem.W.nsIn K cStatics "thirdparty.any") (some none)))))))))
theorem sup_ok {c : Str} (q : supB K c = true) : SupC K (ga K c) := by
  obtain ⟨q1, q⟩ := ba q
  obtain ⟨q2, q⟩ := ba q
  obtain ⟨q3, q⟩ := ba q
  obtain ⟨q4, q⟩ := ba q
  obtain ⟨q5, q⟩ := ba q
  obtain ⟨q6, q⟩ := ba q
  obtain ⟨q7, q⟩ := ba q
  obtain ⟨q8, q⟩ := ba q
  obtain ⟨q9, q10⟩ := ba q
  have x := xfB_ok q2
  exact ⟨oex_ok q1, x, ⟨x.ga, x.gg, x.exC, x.hdC, eqO_ok q3, eqO_ok q4, of_decide_eq_true q5, of_decide_eq_true q6⟩, of_decide_eq_true q7, eqO_ok q8, of_decide_eq_true q9, eqO_ok q10⟩
abbrev BindS (qual : Str) (st : Stmt) (ps : List Str) : Prop := ∀ (kV doc pm : Value) (an : Option Addr) (cdv ct : Value) (cc : Addr) (us : List Value), us.length = ps.length → bindArgs (PySem.W.fnX "__init__" qual (C8.fnArgs st) (C8.fnBody st) (C8.fnScope st) [("__class__", cc)] .none kV doc pm an cdv ct) ⟨us, []⟩ = pure (ps.zip us)
def initB (K : PySem.W.Frag) (c : Str) : Bool := eqO (PySem.W.findIn K (.ref (ga K c)) "__init__") (some (some (.ref (ma K (ga K c) "__init__")))) && decide (PySem.W.typeIn K (.ref (ma K (ga K c) "__init__")) = some (.type "function"))
theorem supOf_ (X : K.In h) (G : h.Ns mainGlobals mg) {c q : Str} {st : Stmt} {ps : List Str} (c0 : supB K c = true) (c1 : (Fa.glo c).ok K = true) (ci : initB K c = true) (c2 : ∃ fd, SupFun K "/claim/cut.py" (ga K c) (dS c q st).qual (C8.fnArgs (dS c q st).st) (C8.fnBody (dS c q st).st) (C8.fnScope (dS c q st).st) ((dS c q st).ad K) fd) (hb : BindS q st ps) : SupOf K mg c (ga K c) q st ps := by
  obtain ⟨fd, F⟩ := c2
  obtain ⟨i1, i2⟩ := ba ci
  refine ⟨sup_ok c0, glo_ok X G c1, _, fd, eqO_ok i1, of_decide_eq_true i2, F, ?_⟩
  obtain ⟨oc, od, doc, pm, ct, osl, cc, ccl, ccd, ccs, cd, kcl, kcd, kcs, vss, tf, kV, an, rfl, _⟩ := F.ex
  exact .all fun us hl => hb kV doc pm an (.ref cd) ct cc us hl
theorem strG (X : K.In h) (G : h.Ns mainGlobals mg) {x z : Str} (c : (Fa.str x z).ok K = true) : ∃ u, mg x = some u ∧ L2.RelV (.str z) u := by
  obtain ⟨t, e⟩ := str_ok X G c
  exact ⟨_, e, t, rfl⟩
theorem intG (X : K.In h) (G : h.Ns mainGlobals mg) {x : Str} {i : Int} (c : (Fa.int x i).ok K = true) : ∃ u, mg x = some u ∧ L2.RelV (.int i) u := by
  obtain ⟨t, e⟩ := int_ok X G c
  exact ⟨_, e, t, rfl⟩
end
end Od
end
section
set_option Elab.async false
set_option linter.all false
set_option maxRecDepth 100000
set_option maxHeartbeats 2000000
set_option autoImplicit false
/-! defs and classmethods that let own exceptions out; raise X(e); the suite that holds one -/
namespace Od
open PySem PySem.Spec PyProof.Rows L2
/-- around a body nothing is let out -/
theorem takes0 {X : Cx} : Takes X (fun _ _ _ _ => False) := fun _ _ x => by
  obtain ⟨_, _, _, _, _, _, _, _, _, _, _, _, _, _, _, _, z⟩ := x
  exact z.elim
section
variable {X : Cx} {C : Addr} {sp : Sp} {j : Nat} {x : Str} {e : Expr} {es : List Expr} {ta : TA} {p pos : Pos}
/-- raise X(e, ..) -/
theorem pmk_O (M : OMk X.prog X.w X.K X.mg X.base j x C sp) (hr : Room (j + 1) X.A) (hg : Gl X x) (ha : PA X (e :: es) ta) (hdb : (x == ("__debug__" : Str)) = false := by decide) (he : starEach (e :: es) X.env = (false, eval e X.env) :: starEach es X.env := by rfl)
    (hpl : (backTo pos (starEach es X.env)).any (·.1) = false := by rfl) : PMk X (.Call (.Name x p) (e :: es) [] pos) (tMkO C sp [] ta) := by
  obtain ⟨fI, fd, ps, iC, tI, F1, hb⟩ := M.ex
  exact pmk_oex M.sc.ox iC tI F1 hr hb .nil C8.pass0 hg M.gl ha hdb he hpl
end
theorem exc_le {H H' : Hp} {a d : Addr} {o : HO} {fs : List (Str × V)} (na : H a = none) (nd : H d = none) (lx : LeX a (upd H a o) H') : Le H (upd (L2.del H' a) d (.xd fs)) := fun b u h => by
  have h1 : b ≠ a := ne_of_new na h
  have h2 : b ≠ d := ne_of_new nd h
  rw [upd_ne h2]
  unfold L2.del
  rw [if_neg h1]
  exact lx b u h1 (by rw [upd_ne h1]; exact h)
/-! ### defs that may raise -/
section
variable {P : Program} {w : World} {K : PySem.W.Frag} {mg : Str → Option Value} {base : Heap}
structure CalX (P : Program) (w : World) (K : PySem.W.Frag) (mg : Str → Option Value) (base : Heap) (k : Nat) (x : Str) (sp : Sp) : Prop where
  ex : ∃ (f : Addr) (fd : FuncData) (ps : List Str), FnOk P w K mg base (L2.CX P w) k f fd ps sp ∧ mg x = some (.ref f) ∧ PySem.W.keepIn K (.ref f) = true ∧ Binds K fd ps []
theorem calX {x : Str} {st : Stmt} {f : Addr} {fd : FuncData} {N ps : List Str} {k : Nat} {sp : Sp} (F : C8.Def K mg x st f fd) (b : Binds K fd ps []) (S : FnScope N ps (C8.fnScope st)) (len : ∀ vs H Q E, sp vs H Q E → vs.length = ps.length)
    (hbody : ∀ (cdv : Value) (A : Around) (outer : List Env) (s : Shared) (H : Hp) (vs : List V) (Q : VK) (E : XK), Room k (A.deeper (envOfC x (C8.fnScope st) s.heap.objs.size f cdv)) → sp vs H Q E →
      ∃ t, PSs (cxOf (L2.CX P w) P w K mg base N x (C8.fnScope st) f cdv A outer s H E) (C8.fnBody st) t ∧ t { nx := fun _ H' => Q .non H', rt := Q } (L2.start N vs) H) : CalX P w K mg base (k + 1) x sp := by
  obtain ⟨⟨oc, od, dV, kV, doc, pm, an, cdv, ct, osl, rfl, lk, hcd⟩⟩ := F.fn
  exact ⟨f, _, ps, fn_of lk hcd S len fun A outer s H vs Q E hr hsp => hbody cdv A outer s H vs Q E hr hsp, F.mgf, F.kp, b⟩
structure CMtX (P : Program) (w : World) (K : PySem.W.Frag) (mg : Str → Option Value) (base : Heap) (k : Nat) (C : Addr) (m : Str) (sp : Sp) : Prop where
  ex : ∃ (mc : Value) (p g : Addr), ClX.CRead K C mc ∧ ClX.CMet K C mc m p g ∧ FnR P w K mg base (L2.CX P w) k g sp
theorem cmtX {m qual : Str} {C p g : Addr} {mc : Value} {st : Stmt} {fd : FuncData} {N ps : List Str} {k : Nat} {sp : Sp} (r : ClX.CRead K C mc) (cm : ClX.CMet K C mc m p g) (F : C8.Fun K m qual st g fd) (b : L2.Binds K fd ps []) (S : FnScope N ps (C8.fnScope st)) (len : ∀ vs H Q E, sp vs H Q E → vs.length = ps.length)
    (hbody : ∀ (cdv : Value) (A : Around) (outer : List Env) (s : Shared) (H : Hp) (vs : List V) (Q : VK) (E : XK), Room k (A.deeper (envOfC qual (C8.fnScope st) s.heap.objs.size g cdv)) → sp vs H Q E →
      ∃ t, PSs (cxOf (L2.CX P w) P w K mg base N qual (C8.fnScope st) g cdv A outer s H E) (C8.fnBody st) t ∧ t { nx := fun _ H' => Q .non H', rt := Q } (L2.start N vs) H) : CMtX P w K mg base (k + 1) C m sp := by
  obtain ⟨oc, od, dV, kV, doc, pm, an, cdv, ct, osl, rfl, lk, hcd⟩ := F.ex
  have Fo : FnOk P w K mg base (L2.CX P w) (k + 1) g _ ps sp := fn_of lk hcd S len fun A outer s H vs Q E hr hsp => hbody cdv A outer s H vs Q E hr hsp
  exact ⟨mc, p, g, r, cm, (Fo.raw b .nil).imp fun vs H Q E h => by rw [List.append_nil]; exact h⟩
end
section
variable {X : Cx} {pins : List (Addr × Obj)} {σ : L2.St} {H : Hp} {s : Shared} {C p g : Addr} {mc : Value} {m : Str} {k j : Nat} {sp : Sp} {W : WX} {o e : Expr} {es : List Expr} {pos apos : Pos} {ta : TE} {t : TA} {pl : Sem Bool}
/-- C.m(e, ..) within a try (or in a def that may raise): what it lets out is wished for at the slots -/
def tCMethS (C : Addr) (sp : Sp) (W : WX) (ta : TE) (t : TA) : TE := fun σ H Q => ta σ H fun x H1 => x = .ref C ∧ t σ H1 fun vs H2 => sp (.ref C :: vs) H2 Q (WE W σ)
theorem run_cmS {q : Addr} {Q : VK} {us : List Value} {vs : List V} (F : FnR X.prog X.w X.K X.mg X.base (L2.CX X.prog X.w) k g sp) (hr : Room k X.A) (tk : Takes X W) (I : Inv X ((q, PySem.W.methodObj (.ref g) (.ref C)) :: pins) σ H s)
    (r : Vals vs us) (h : sp (.ref C :: vs) H Q (WE W σ)) : wpAny (model X.prog X.w) X.A (call (.ref q) us) (EP X pins σ Q) X.xe s := by
  have z : wpAny (model X.prog X.w) X.A (call (.ref q) us) (EP X ((q, PySem.W.methodObj (.ref g) (.ref C)) :: pins) σ Q) X.xe s := by
    refine wpAny_call (PySem.W.method_call (ClX.pin_at I) (codeAny_mono (F X.A X.stack s H (.ref C :: us) (.ref C :: vs) Q (WE W σ) hr I.env0 (.cons rfl r) h) fun r s' hq => ?_))
    cases r with
    | error e => exact passAt tk σ _ H s e s' I hq
    | ok fl =>
      cases fl with
      | ret u => exact I.after hq
      | next => exact False.elim hq
      | brk => exact False.elim hq
      | cont => exact False.elim hq
  exact thn z fun _ _ y => ClX.unpinE y
theorem pe_cmS (c : CMtX X.prog X.w X.K X.mg X.base k C m sp) (hr : Room j X.A) (hk : k ≤ j) (tk : Takes X W) (he : PE X o ta) (ha : PA X (e :: es) t) {pl : Sem Bool}
    (hst : starEach (e :: es) X.env = (false, eval e X.env) :: starEach es X.env := by rfl) (hpl : (backTo pos (starEach es X.env)).any (·.1) = false := by rfl)
    (ht : eval (.Call (.Attribute o m apos) (e :: es) [] pos) X.env = (do
      let ov ← eval o X.env
      standAt apos.atName
      let (f, first) ← holding [ov] (getMethod ov m pl)
      callWith pos f first (backTo pos (starEach (e :: es) X.env)) (backToKw pos (keywordEach [] X.env))) := by rfl) :
    PE X (.Call (.Attribute o m apos) (e :: es) [] pos) (tCMethS C sp W ta t) := by
  obtain ⟨mc, p, g, r, cm, F⟩ := c.ex
  refine ⟨fun pins s σ H Q I h => ?_⟩
  refine PySem.W.methodCall_KW (pl := pl) (thn (he.run pins s σ H _ I h) fun u s1 ⟨x, H1, I1, rx, ex, q⟩ => ?_) ht
  subst ex
  obtain rfl : u = Value.ref C := rx
  refine ClX.getmethcm_ok I1 r cm fun s2 I2 => ?_
  refine ClX.callwith_cm I2 (ClX.base_none I1 (Nat.le_refl _)) cm.fi (thn (ha.run pos _ s2 σ H1 _ I2 q) fun us s3 ⟨vs, H2, I3, rv, q2⟩ => ⟨⟨ClX.pin_at I3, I3.kIn⟩, ?_⟩) hst hpl
  exact run_cmS F (hr.mono hk) tk I3 rv q2
/-- f(e, ..) within a try -/
theorem pe_cS {x : Str} {p1 : Pos} (c : CalX X.prog X.w X.K X.mg X.base k x sp) (hr : Room j X.A) (hk : k ≤ j) (tk : Takes X W) (hg : Gl X x) (ha : PA X (e :: es) t)
    (hdb : (x == ("__debug__" : Str)) = false := by decide) (he : starEach (e :: es) X.env = (false, eval e X.env) :: starEach es X.env := by rfl) (hpl : (backTo pos (starEach es X.env)).any (·.1) = false := by rfl) :
    PE X (.Call (.Name x p1) (e :: es) [] pos) (tCallS sp (WE W) t) := by
  obtain ⟨f, fd, ps, F, hm, kp, b⟩ := c.ex
  exact pe_callS F (hr.mono hk) hg hm kp b (fun σ => passAt tk σ) ha hdb he hpl
end
/-! ### in the suite -/
section
variable {X : Cx} {a : Addr} {oe : Obj} {pn : List (Addr × Obj)} {cls : Value} {d : Option Addr}
/-- isinstance(e, c), e the exception that the suite holds, with or without fields -/
def rIsS (K : PySem.W.Frag) (a : Addr) (cls : Value) (d : Option Addr) : List V → Hp → VK → Prop := fun xs H Q => ∃ (C : Addr) (c : V) (cv : Value) (b : Bool), xs = [.ref a, c] ∧ cls = .ref C ∧ (∀ dd, d = some dd → ∃ fs, H dd = some (.xd fs)) ∧ ExcC K C ∧ (∀ u, L2.RelV c u → u = cv) ∧ PySem.W.kitOne K (.ref C) cv = some b ∧ Q (.bl b) H
theorem call_isS (hz : Zc cls d oe) (hf : ∃ vs, oe.data = .fields vs) : CallR (X.suite a ((a, oe) :: pn)) (.builtin "isinstance") (rIsS X.K a cls d) := by
  intro pins s σ H xs us Q I r h
  obtain ⟨C, c, cv, b, rfl, rfl, hd, ec, hcv, e, q⟩ := h
  cases r with
  | cons rx rr =>
    cases rr with
    | cons rt rr =>
      cases rr
      cases rx
      have ecv := hcv _ rt
      subst ecv
      obtain ⟨hget, _⟩ := I.pin (a, oe) (List.mem_append.mpr (.inl List.mem_cons_self))
      obtain ⟨vs, hv⟩ := hf
      have J : ∃ ox od, PySem.W.InstAt s.heap a ox C od := by
        cases d with
        | none => exact ⟨oe, none, hget, hz.1, by unfold PySem.W.notCls; rw [hv] <;> rfl, by rw [hz.2]; trivial⟩
        | some dd =>
          obtain ⟨fs, hx⟩ := hd dd rfl
          have hx : ObjOk X.prog X.w H s.heap dd (.xd fs) := I.hok dd _ hx
          obtain ⟨mA, ⟨od, es, ep, hod, _⟩, _⟩ := hx
          exact ⟨oe, some od, hget, hz.1, by unfold PySem.W.notCls; rw [hv] <;> rfl, by rw [hz.2]; exact hod⟩
      exact PySem.W.kia_one (kitxO ec) I.kIn J e (fun z => nomatch z) fun tk => ⟨.bl b, H, I.kept (t' := tk) fun _ _ z => z, rfl, q⟩
/-- e.f there, whatever its class -/
theorem pe_xfS {C : Addr} {e : Expr} {te : TE} {pos : Pos} {n : Str} (T : XfC X.K C) (hno : PySem.W.findIn X.K (.ref C) n = some none) (hz : Zc cls d oe) (hf : ∃ vs, oe.data = .fields vs) (he : PE (X.suite a ((a, oe) :: pn)) e te) (hb : attributeBase e n X.env (eval e X.env) = eval e X.env := by rfl) :
    PE (X.suite a ((a, oe) :: pn)) (.Attribute e n pos) (tXf a cls d C n te) := pe_xf T hno hz hf he hb
end
end Od
end
section
set_option Elab.async false
set_option linter.all false
set_option maxRecDepth 100000
set_option maxHeartbeats 2000000
set_option autoImplicit false
/-! the package's own exceptions: their __init__ -/
namespace Od
open PySem PySem.Spec PyProof.Rows L2 C8
/-- field f holds v -/
def sp_err (C : Addr) (f : Str) (ok : V → Prop) : Sp := fun vs H Q _ => ∃ (a : Addr) (v : V), vs = [.ref a, v] ∧ ok v ∧ H a = some (exo a C none) ∧ ∀ H' d, LeX a H H' → (∀ b, H' b = none → H b = none) → H d = none → d ≠ a → H' a = some (exo a C (some d)) → H' d = some (exd d [(f, v)]) → Q .non H'
/-- no field -/
def sp_err0 (C : Addr) : Sp := fun vs H Q _ => ∃ a : Addr, vs = [.ref a] ∧ H a = some (exo a C none) ∧ (ErrAt H a C [] → Q .non H)
/-- a list of texts, kept as a new list -/
def sp_errL (K : PySem.W.Frag) (C : Addr) : Sp := fun vs H Q _ => ∃ (a l : Addr) (xs : List V), vs = [.ref a, .ref l] ∧ SqL K H l xs ∧ xs.length ≤ 10000 ∧ H a = some (exo a C none) ∧ ∀ H' q, LeX a H H' → (∀ b, H' b = none → H b = none) → H q = none → q ≠ a → H' q = some (.lst xs) → ErrAt H' a C [("names", .ref q)] → Q .non H'
def isInt9 (v : V) : Prop := ∃ i : Int, v = .int i ∧ i.natAbs.log2 < 1900
def isStr9 (v : V) : Prop := ∃ s : Str, v = .str s ∧ s.length ≤ 1000000
theorem num_len {i : Int} (h : i.natAbs.log2 < 1900) : (Str.ofString (toString i)).length ≤ 10000 := by
  have e := int_text_length_le (k := 1900) (by decide) h
  rw [PySem.ofString_length]
  omega
theorem lenJ (a b : Str) : (a ++ b).length = a.length + b.length := by
  show (a.cps ++ b.cps).size = _
  rw [Array.size_append]
  rfl
theorem szJ {a b : Str} {m n : Nat} (ha : a.length ≤ m) (hb : b.length ≤ n) (h : m + n ≤ 16000000) : (a ++ b).length ≤ sizeLine := by
  rw [lenJ]
  exact le_szl _ (by omega)
theorem leJ {a b : Str} {m n : Nat} (ha : a.length ≤ m) (hb : b.length ≤ n) : (a ++ b).length ≤ m + n := by
  rw [lenJ]
  omega
theorem put_err {H : Hp} {a C dx : Addr} {f : Str} {v : V} (ha : H a = some (exo a C none)) (nx : H dx = none) (ne : dx ≠ a) : LeX a H (upd (upd H dx (exd dx [(f, v)])) a (exo a C (some dx))) ∧ (∀ b, upd (upd H dx (exd dx [(f, v)])) a (exo a C (some dx)) b = none → H b = none) ∧ upd (upd H dx (exd dx [(f, v)])) a (exo a C (some dx)) a = some (exo a C (some dx)) ∧ upd (upd H dx (exd dx [(f, v)])) a (exo a C (some dx)) dx = some (exd dx [(f, v)]) := by
  refine ⟨fun b o hb h => ?_, fun b h => ?_, upd_self, ?_⟩
  · rw [upd_ne hb, upd_ne (ne_of_new nx h)]
    exact h
  · by_cases h1 : b = a
    · rw [h1, upd_self] at h; cases h
    · rw [upd_ne h1] at h
      by_cases h2 : b = dx
      · rw [h2]; exact nx
      · rw [upd_ne h2] at h; exact h
  · rw [upd_ne ne, upd_self]
/-- raise X(v), X of one field -/
theorem rd_raise {CB : Addr} {f : Str} {ok : V → Prop} {v : V} {H3 : Hp} {E : XK} (hv : ok v) (k : ∀ H' d, Le H3 H' → H3 d = none → H' d = some (.xd [(f, v)]) → E (.ref CB) (some d) H') :
    ∀ a, H3 a = none → sp_err CB f ok (.ref a :: ([v] ++ [])) (upd H3 a (exo a CB none)) (fun v' H2 => v' = .non ∧ ∃ (d : Addr) (fs : List (Str × V)), H2 a = some (exo a CB (some d)) ∧ H2 d = some (exd d fs) ∧ H3 d = none ∧ E (.ref CB) (some d) (upd (L2.del H2 a) d (.xd fs))) fun _ _ _ => False := fun a na => by
  refine ⟨a, v, rfl, hv, upd_self, fun H' d lx hb nd ne xa xd => ⟨rfl, d, _, xa, xd, ?_, ?_⟩⟩
  · rw [upd_ne ne] at nd
    exact nd
  · have nd2 : H3 d = none := by
      rw [upd_ne ne] at nd
      exact nd
    exact k _ d (exc_le na nd2 lx) nd2 upd_self
section
variable {P : Program} {w : World} {K : PySem.W.Frag} {mg : Str → Option Value} {base : Heap}
abbrev s_BadDays___init__ : Stmt := inClass (top 3) 0
abbrev N_BadDays___init__ : List Str := ["self", "index", "__class__"]
abbrev P_BadDays___init__ : List Str := ["self", "index"]
theorem sc_BadDays___init__ : NdefX.NScope N_BadDays___init__ P_BadDays___init__ ["__class__"] (C8.fnScope s_BadDays___init__) := NdefX.nscope_by (by decide +kernel)
theorem ss_BadDays___init__ : SupS (C8.fnScope s_BadDays___init__) (C8.fnArgs s_BadDays___init__) "self" := ⟨by decide +kernel, by decide +kernel, by decide +kernel, _, rfl, rfl⟩
theorem o_BadDays {C : Addr} (nf : PySem.W.findIn K (.ref C) "index" = some none) (EP : SupP P "/claim/cut.py") (hsu : mg "super" = none) (F : SupOf K mg "BadDays" C "BadDays.__init__" s_BadDays___init__ P_BadDays___init__) : OMk P w K mg base 1 "BadDays" C (sp_err C "index" isInt9) := by
  obtain ⟨f, fd, h1, h2, F1, b⟩ := F.ex
  refine ⟨F.sc, F.gl, f, fd, _, h1, h2, fn_sup (k := 0) F1 F.sc EP sc_BadDays___init__ ss_BadDays___init__ rfl hsu (fun vs H Q E h => by obtain ⟨_, _, rfl, _⟩ := h; rfl) (fun cc cd A outer s H vs Q E hr h => ?_), b⟩
  obtain ⟨a, v, rfl, ⟨i, rfl, hi⟩, ha, q⟩ := h
  have nd := sc_BadDays___init__.nd
  have n1 := num_len hi
  refine ⟨_, _, (pa_cons (pe_joined (.cons pe_str (.cons (pe_fmt (pv 1)) (.cons pe_str .nil)))) pa_nil), (pss_one (ps_ost (pv 0) (pv 1))), ?_⟩
  refine ⟨a, rfl, ha, _, rfl, szJ (m := 0) (n := 100) (by decide +kernel) (by decide +kernel) (by decide), _, rfl, .inr ⟨i, rfl, by omega, _, rfl, szJ (m := 0 + 100) (n := 10000) (leJ (by decide +kernel) (by decide +kernel)) n1 (by decide), ?_⟩⟩
  refine ⟨_, rfl, szJ (m := 0 + 100 + 10000) (n := 100) (leJ (leJ (by decide +kernel) (by decide +kernel)) n1) (by decide +kernel) (by decide), ?_⟩
  refine ⟨show 1 ≤ 1000 by decide, ha, ?_⟩
  refine ⟨_, rfl, _, rfl, a, C, rfl, F.sc.ox, nf, .inl ⟨ha, fun dx nx ne => ?_⟩⟩
  obtain ⟨z1, z2, z3, z4⟩ := put_err (v := .int i) ha nx ne
  exact q _ dx z1 z2 nx ne z3 z4
abbrev s_BadCount___init__ : Stmt := inClass (top 4) 0
abbrev N_BadCount___init__ : List Str := ["self", "count", "__class__"]
abbrev P_BadCount___init__ : List Str := ["self", "count"]
theorem sc_BadCount___init__ : NdefX.NScope N_BadCount___init__ P_BadCount___init__ ["__class__"] (C8.fnScope s_BadCount___init__) := NdefX.nscope_by (by decide +kernel)
theorem ss_BadCount___init__ : SupS (C8.fnScope s_BadCount___init__) (C8.fnArgs s_BadCount___init__) "self" := ⟨by decide +kernel, by decide +kernel, by decide +kernel, _, rfl, rfl⟩
theorem o_BadCount {C : Addr} (nf : PySem.W.findIn K (.ref C) "count" = some none) (EP : SupP P "/claim/cut.py") (hsu : mg "super" = none) (F : SupOf K mg "BadCount" C "BadCount.__init__" s_BadCount___init__ P_BadCount___init__) : OMk P w K mg base 1 "BadCount" C (sp_err C "count" isInt9) := by
  obtain ⟨f, fd, h1, h2, F1, b⟩ := F.ex
  refine ⟨F.sc, F.gl, f, fd, _, h1, h2, fn_sup (k := 0) F1 F.sc EP sc_BadCount___init__ ss_BadCount___init__ rfl hsu (fun vs H Q E h => by obtain ⟨_, _, rfl, _⟩ := h; rfl) (fun cc cd A outer s H vs Q E hr h => ?_), b⟩
  obtain ⟨a, v, rfl, ⟨i, rfl, hi⟩, ha, q⟩ := h
  have nd := sc_BadCount___init__.nd
  refine ⟨_, _, (pa_cons pe_str pa_nil), (pss_one (ps_ost (pv 0) (pv 1))), ?_⟩
  refine ⟨a, rfl, ha, show 1 ≤ 1000 by decide, ha, ?_⟩
  refine ⟨_, rfl, _, rfl, a, C, rfl, F.sc.ox, nf, .inl ⟨ha, fun dx nx ne => ?_⟩⟩
  obtain ⟨z1, z2, z3, z4⟩ := put_err (v := .int i) ha nx ne
  exact q _ dx z1 z2 nx ne z3 z4
end
end Od
end
section
set_option Elab.async false
set_option linter.all false
set_option maxRecDepth 100000
set_option maxHeartbeats 2000000
set_option autoImplicit false
/-! texts that are joined -/
namespace Od
open PySem PySem.Spec PyProof.Rows L2 Day
theorem joinT_L (S : List Nat) : ∀ (r : List (List Nat)) (x : List Nat), TL.joinL S (x :: r) = x ++ r.flatMap fun z => S ++ z
  | [], x => by simp [TL.joinL]
  | y :: r, x => by
    show x ++ (S ++ TL.joinL S (y :: r)) = _
    rw [joinT_L S r y, List.flatMap_cons, List.append_assoc]
theorem joinT_tl (sep : Str) (x : Str) (r : List Str) : (Txt.join sep (x :: r)).cps.toList = x.cps.toList ++ r.flatMap fun z => sep.cps.toList ++ z.cps.toList := by
  have h := (congrArg TL.tl (TL.join_eq sep (x :: r))).trans (TL.tl_join sep (x :: r))
  refine h.trans ?_
  rw [List.map_cons, joinT_L, List.flatMap_map]
theorem app_len (a b : Str) : (a ++ b).length = a.length + b.length := by
  have h := congrArg List.length (app_tl a b)
  rw [List.length_append] at h
  simpa [Str.length] using h
/-- the four words of a form, joined -/
theorem strF_join (F : Frm) : Txt.join (" " : Str) [rowS F.l, numS F.low, midS F.m, rowS F.r] = strF F := by
  refine TL.ext_tl ?_
  show (Txt.join (" " : Str) [rowS F.l, numS F.low, midS F.m, rowS F.r]).cps.toList = (strF F).cps.toList
  rw [joinT_tl, strF_tl, tl_sp]
  simp [rowS_tl]
theorem strF_whole (r : List Bool) : rowS r ++ (" 0 - " : Str) ++ rowS r = strF ⟨r, 0, [], r⟩ := by
  refine TL.ext_tl ?_
  show (rowS r ++ (" 0 - " : Str) ++ rowS r).cps.toList = (strF ⟨r, 0, [], r⟩).cps.toList
  rw [app_tl, app_tl, strF_tl]
  have e1 : (" 0 - " : Str).cps.toList = [32, 48, 32, 45, 32] := by decide +kernel
  have e2 : (numS 0).cps.toList = [48] := by decide +kernel
  have e3 : (midS []).cps.toList = [45] := by decide +kernel
  rw [e1]
  show _ = r.map sg ++ 32 :: ((numS 0).cps.toList ++ 32 :: ((midS []).cps.toList ++ 32 :: r.map sg))
  rw [e2, e3]
  simp [rowS_tl]
end Od
end
section
set_option Elab.async false
set_option linter.all false
set_option maxRecDepth 100000
set_option maxHeartbeats 2000000
set_option autoImplicit false
/-! the words of a text: what stands between single spaces; the first wrong one -/
namespace Od
open PySem PySem.Spec PyProof.Rows L2 Day
/-- what stands between the signs c -/
def spW (c : Nat) : List Nat → List (List Nat)
  | [] => [[]]
  | x :: r => if x = c then [] :: spW c r else match spW c r with
    | p :: ps => (x :: p) :: ps
    | [] => [[x]]
theorem spW_ne (c : Nat) : ∀ l, spW c l ≠ []
  | [] => by simp [spW]
  | x :: r => by
    unfold spW
    split
    · simp
    · split <;> simp
theorem spW_free (c : Nat) : ∀ l, ∀ p ∈ spW c l, c ∉ p
  | [], p, h => by simp [spW] at h; rw [h]; simp
  | x :: r, p, h => by
    have ih := spW_free c r
    unfold spW at h
    split at h
    · rcases List.mem_cons.mp h with rfl | h
      · simp
      · exact ih p h
    · rename_i hx
      split at h
      · rename_i q qs e
        rcases List.mem_cons.mp h with rfl | h
        · intro hc
          rcases List.mem_cons.mp hc with e2 | hc
          · exact hx e2.symm
          · exact ih q (by rw [e]; exact List.mem_cons_self) hc
        · exact ih p (by rw [e]; exact List.mem_cons_of_mem _ h)
      · rename_i e
        exact absurd e (spW_ne c r)
theorem spW_join (c : Nat) : ∀ l, TL.joinL [c] (spW c l) = l
  | [] => rfl
  | x :: r => by
    have ih := spW_join c r
    unfold spW
    cases e : spW c r with
    | nil => exact absurd e (spW_ne c r)
    | cons p ps =>
      rw [e] at ih
      split
      · rename_i hx
        subst hx
        show [] ++ ([x] ++ TL.joinL [x] (p :: ps)) = _
        rw [ih]
        rfl
      · cases ps with
        | nil =>
          have ih : p = r := ih
          rw [← ih]
          rfl
        | cons q qs =>
          have ih : p ++ ([c] ++ TL.joinL [c] (q :: qs)) = r := ih
          show (x :: p) ++ ([c] ++ TL.joinL [c] (q :: qs)) = _
          rw [List.cons_append, ih]
theorem spl_spW (c : Nat) (l : List Nat) : TL.spl [c] 0 [] l = spW c l := by
  have h := TL.spl_join (s := c) (S := []) (spW_ne c l) (spW_free c l)
  rw [spW_join] at h
  exact h
theorem spW_app (c : Nat) : ∀ a b, spW c (a ++ c :: b) = spW c a ++ spW c b
  | [], b => by simp [spW]
  | x :: a, b => by
    have ih := spW_app c a b
    rw [List.cons_append]
    show (if x = c then [] :: spW c (a ++ c :: b) else _) = (if x = c then [] :: spW c a else _) ++ _
    rw [ih]
    cases e : spW c a with
    | nil => exact absurd e (spW_ne c a)
    | cons p ps =>
      split
      · rfl
      · rfl
theorem spW_part (c : Nat) : ∀ l, ∀ p ∈ spW c l, p.length ≤ l.length
  | [], p, h => by simp [spW] at h; rw [h]; exact Nat.le_refl _
  | x :: r, p, h => by
    have ih := spW_part c r
    unfold spW at h
    rw [List.length_cons]
    split at h
    · rcases List.mem_cons.mp h with rfl | h
      · simp
      · have := ih p h; omega
    · split at h
      · rename_i q qs e
        rcases List.mem_cons.mp h with rfl | h
        · have := ih q (by rw [e]; exact List.mem_cons_self)
          rw [List.length_cons]; omega
        · have := ih p (by rw [e]; exact List.mem_cons_of_mem _ h); omega
      · rename_i e
        exact absurd e (spW_ne c r)
theorem spW_flat (c : Nat) : ∀ (x : List Nat) (r : List (List Nat)), spW c (TL.joinL [c] (x :: r)) = (x :: r).flatMap (spW c)
  | x, [] => by show spW c x = _; simp
  | x, y :: r => by
    show spW c (x ++ ([c] ++ TL.joinL [c] (y :: r))) = _
    rw [List.singleton_append, spW_app, spW_flat c y r]
    exact (List.flatMap_cons ..).symm
/-- the words of a text -/
def wordsT (z : Str) : List Str := if z.cps.toList = [] then [] else (spW 32 z.cps.toList).map SX.S
theorem split_words (z : Str) : Txt.split z (" " : Str) = (spW 32 z.cps.toList).map SX.S := by
  have e1 : TL.tl (" " : Str) = [32] := by decide +kernel
  have h := TL.split_spl z (" " : Str) (by rw [e1]; simp) (TL.kind_ok (by decide +kernel))
  rw [e1, spl_spW] at h
  have h2 := congrArg (List.map SX.S) h
  rw [List.map_map] at h2
  have e3 : (Txt.split z (" " : Str)).map (SX.S ∘ TL.tl) = Txt.split z (" " : Str) := by
    have : ∀ x : Str, (SX.S ∘ TL.tl) x = x := fun x => SX.S_tl x
    rw [List.map_congr_left fun x _ => this x, List.map_id']
  rw [e3] at h2
  exact h2
theorem parts_len {ws : List Str} {n : Nat} (h : ∀ w ∈ ws, w.length ≤ n) : ∀ p ∈ wordsT (Txt.join (" " : Str) ws), p.length ≤ n := by
  cases ws with
  | nil =>
    have e : (Txt.join (" " : Str) []).cps.toList = [] := by decide +kernel
    intro p hp
    unfold wordsT at hp
    rw [if_pos e] at hp
    cases hp
  | cons x r =>
    have e : (Txt.join (" " : Str) (x :: r)).cps.toList = TL.joinL [32] ((x :: r).map TL.tl) := by
      have h1 := (congrArg TL.tl (TL.join_eq (" " : Str) (x :: r))).trans (TL.tl_join (" " : Str) (x :: r))
      have e1 : TL.tl (" " : Str) = [32] := by decide +kernel
      rw [e1] at h1
      exact h1
    intro p hp
    unfold wordsT at hp
    split at hp
    · cases hp
    · rw [e, List.map_cons, spW_flat] at hp
      obtain ⟨q, hq, rfl⟩ := List.mem_map.mp hp
      obtain ⟨y, hy, hq⟩ := List.mem_flatMap.mp hq
      have h2 := spW_part 32 y q hq
      rw [← List.map_cons (f := TL.tl)] at hy
      obtain ⟨z, hz, rfl⟩ := List.mem_map.mp hy
      have h3 := h z hz
      rw [SX.S_len]
      have : (TL.tl z).length = z.length := by simp [TL.tl, Str.length]
      omega
theorem words_count (c : Nat) : ∀ l, (spW c l).length ≤ l.length + 1
  | [] => by simp [spW]
  | x :: r => by
    have ih := words_count c r
    unfold spW
    split
    · simp; omega
    · cases e : spW c r with
      | nil => exact absurd e (spW_ne c r)
      | cons p ps => rw [e] at ih; simp at ih ⊢; omega
end Od
end
section
set_option Elab.async false
set_option linter.all false
set_option maxRecDepth 100000
set_option maxHeartbeats 2000000
set_option autoImplicit false
/-! DaySet.read of any text, DaySet.turns of any count: what is refused -/
namespace Od
open PySem PySem.Spec PyProof.Rows L2 C8 Day
abbrev s_DaySet_turns : Stmt := inClass (top 18) 6
abbrev N_DaySet_turns : List Str := ["cls", "n", "p", "row"]
abbrev P_DaySet_turns : List Str := ["cls", "n", "p"]
theorem sc_DaySet_turns : FnScope N_DaySet_turns P_DaySet_turns (C8.fnScope s_DaySet_turns) := fnScope_by (by decide +kernel)
def GoodW (i : Nat) (z : Str) : Prop := if i = 1 then IsNum z.cps.toList else IsRowL z.cps.toList ∨ (i = 2 ∧ z = ("-" : Str))
/-- the index that is due, or none -/
def Due (ws : List Str) (o : Option Nat) : Prop :=
  (∃ i z, o = some i ∧ i < 4 ∧ ws[i]? = some z ∧ ¬ GoodW i z ∧ ∀ j, j < i → ∀ y, ws[j]? = some y → GoodW j y) ∨
  ((∀ j, j < 4 → ∀ y, ws[j]? = some y → GoodW j y) ∧ ((ws.length = 4 ∧ o = none) ∨ (ws.length ≠ 4 ∧ o = some (min 4 ws.length))))
theorem due_fun {ws : List Str} {o o' : Option Nat} (h : Due ws o) (h' : Due ws o') : o = o' := by
  rcases h with ⟨i, z, rfl, i4, hi, bi, gi⟩ | ⟨g, h⟩
  · rcases h' with ⟨j, y, rfl, j4, hj, bj, gj⟩ | ⟨g', _⟩
    · by_cases c : i < j
      · exact absurd (gj i c z hi) bi
      · by_cases c2 : j < i
        · exact absurd (gi j c2 y hj) bj
        · rw [show i = j by omega]
    · exact absurd (g' i i4 z hi) bi
  · rcases h' with ⟨j, y, rfl, j4, hj, bj, gj⟩ | ⟨g', h'⟩
    · exact absurd (g j j4 y hj) bj
    · rcases h with ⟨h1, rfl⟩ | ⟨h1, rfl⟩ <;> rcases h' with ⟨h2, rfl⟩ | ⟨h2, rfl⟩
      · rfl
      · exact absurd h1 h2
      · exact absurd h2 h1
      · rfl
theorem rowS_of {z : Str} (h : IsRowL z.cps.toList) : ∃ l : List Bool, l ≠ [] ∧ z = rowS l ∧ l.length = z.length := by
  have key : ∀ cs : List Nat, (∀ c ∈ cs, c = 48 ∨ c = 49) → ∃ l : List Bool, cs = l.map sg ∧ l.length = cs.length := by
    intro cs
    induction cs with
    | nil => exact fun _ => ⟨[], rfl, rfl⟩
    | cons c cs ih =>
      intro h
      obtain ⟨l, e, hl⟩ := ih fun x hx => h x (List.mem_cons_of_mem _ hx)
      rcases h c List.mem_cons_self with rfl | rfl
      · exact ⟨false :: l, by rw [e]; rfl, by simp [hl]⟩
      · exact ⟨true :: l, by rw [e]; rfl, by simp [hl]⟩
  obtain ⟨l, e, hl⟩ := key _ h.2
  refine ⟨l, fun c => ?_, TL.ext_tl ?_, ?_⟩
  · subst c
    exact h.1 e
  · show z.cps.toList = (rowS l).cps.toList
    rw [e, rowS_tl]
  · rw [hl, cps_len]
theorem num_text {z : Str} (h : IsNum z.cps.toList) (hl : z.length ≤ 600) : ∃ n, intText? z = some n := by
  rcases h with ⟨r, e, c, _⟩ | c
  · exact ⟨_, intText_neg e c.2.1 c.1 (by omega)⟩
  · exact ⟨_, intText_digits c.2.1 c.1 (by omega)⟩
theorem words_le {z : Str} {p : Str} (h : p ∈ wordsT z) : p.length ≤ z.length := by
  unfold wordsT at h
  split at h
  · cases h
  · obtain ⟨q, hq, rfl⟩ := List.mem_map.mp h
    rw [SX.S_len, ← cps_len]
    exact spW_part 32 _ q hq
theorem words_few {z : Str} : (wordsT z).length ≤ z.length + 1 := by
  unfold wordsT
  split
  · simp
  · rw [List.length_map, ← cps_len]
    exact words_count 32 _
theorem cutV_t (xs : List V) (n : Nat) : cutV xs none (some (n : Int)) = xs.take n := by
  unfold cutV
  rw [HT.sIx_none, HT.sIx_nat, List.drop_zero, Nat.sub_zero]
  by_cases h : n ≤ xs.length
  · rw [Nat.min_eq_left h]
  · rw [Nat.min_eq_right (by omega), List.take_of_length_le (by omega), List.take_of_length_le (by omega)]
section
variable {P : Program} {w : World} {K : PySem.W.Frag} {mg : Str → Option Value} {base : Heap}
def sp_readX (C CB : Addr) : Sp := fun vs H Q E => ∃ z : Str, vs = [.ref C, .str z] ∧ z.length ≤ 600 ∧ (∀ p H', Due (wordsT z) none → Le H H' → Q (.ref p) H') ∧
  ∀ (i : Nat) H' d, Due (wordsT z) (some i) → Le H H' → H d = none → H' d = some (.xd [("index", .int i)]) → E (.ref CB) (some d) H'
theorem q_readX {C CB : Addr} (T : Txt K mg) (D : DSC K mg C) (M : ClmOf K C "read" "DaySet.read" s_DaySet_read P_DaySet_read) (C_is_number : Cal P w K mg base 2 "is_number" (sp_isL IsNum) []) (C_is_row : Cal P w K mg base 1 "is_row" (sp_isL IsRowL) []) (M_DaySet : Mak P w K mg base 4 "DaySet" C (sp_init C) [])
    (O_BadDays : OMk P w K mg base 1 "BadDays" CB (sp_err CB "index" isInt9)) : CMtX P w K mg base 6 C "read" (sp_readX C CB) := by
  obtain ⟨mc, pp, g, fd, r, cm, F, B⟩ := M
  refine cmtX r cm F B sc_DaySet_read (fun vs H Q E h => by obtain ⟨_, rfl, _⟩ := h; rfl) (fun cdv A outer s H vs Q E hr h => ?_)
  obtain ⟨z, rfl, hz, qq, ee⟩ := h
  have nd := sc_DaySet_read.nd
  refine ⟨_, (C8.pss_cut (ps_set (i := 2) nd rfl (Or.inl rfl) (pe_ifExp (pt_cmpR op_ne (pv 1) pe_str (nomark _)) (pe_split (pv 1) pe_str) (pe_lst pa_nil)))
      (C8.pss_cut (ps_for (passes_of rfl) rfl (pi_enum (by rfl) T.b_enumerate (pa_cons (pe_slice sl_list (pv 2) po_none (po_some pe_int)) pa_nil)) (pg_tup rfl (pgs_cons (pg_name (i := 3) nd rfl (Or.inl rfl)) (pgs_cons (pg_name (i := 4) nd rfl (Or.inl rfl)) pgs_nil))) (pss_one (ps_if (pt_not (pt_ifE (pt_cmpR op_eq (pv 3) pe_int (nomark _)) (pt_val (pe_c C_is_number hr (by decide) rfl (pa_cons (pv 4) pa_nil))) (PW.pt (pw_or (pt_val (pe_c C_is_row hr (by decide) rfl (pa_cons (pv 4) pa_nil))) (pw_or1 (PW.pt (pw_and (pt_cmpR op_eq (pv 3) pe_int (nomark _)) (pw_and1 (pt_cmpR op_eq (pv 4) pe_str (nomark _)))))))))) (pss_one (ps_raise rfl (takes_of rfl rfl rfl rfl) (pmk_O O_BadDays (hr.mono (by decide)) rfl (pa_cons (pv 3) pa_nil)))) pss_nil)))
      (C8.pss_cut (ps_if (pt_cmpR op_ne (pe_callB call_len_seq (by rfl) T.b_len (by decide +kernel) (pa_cons (pv 2) pa_nil)) pe_int (nomark _)) (pss_one (ps_raise rfl (takes_of rfl rfl rfl rfl) (pmk_O O_BadDays (hr.mono (by decide)) rfl (pa_cons (pe_ifExp (pt_cmpR op_gt (pe_callB call_len_seq (by rfl) T.b_len (by decide +kernel) (pa_cons (pv 2) pa_nil)) pe_int (nomark _)) pe_int (pe_callB call_len_seq (by rfl) T.b_len (by decide +kernel) (pa_cons (pv 2) pa_nil))) pa_nil)))) pss_nil)
      (pss_cons (ps_asg (pv 2) (pg_lst rfl (pgs_cons (pg_name (i := 5) nd rfl (Or.inl rfl)) (pgs_cons (pg_name (i := 6) nd rfl (Or.inl rfl)) (pgs_cons (pg_name (i := 7) nd rfl (Or.inl rfl)) (pgs_cons (pg_name (i := 8) nd rfl (Or.inl rfl)) pgs_nil))))))
      (pss_one (ps_ret (pe_mk M_DaySet hr (by decide) rfl (pa_cons (pv 5) (pa_cons (pe_callTy call_int_str (by rfl) T.b_int (by decide +kernel) (pa_cons (pv 6) pa_nil)) (pa_cons (pe_ifExp (pt_cmpR op_eq (pv 7) pe_str (nomark _)) pe_str (pv 7)) (pa_cons (pv 8) pa_nil))))))))))), ?_⟩
  have sz : sizeLine = 16777216 := sizeLine_eq
  -- the words
  refine ⟨fun σ' H' => ∃ dw, Le H H' ∧ H' dw = some (.lst ((wordsT z).map V.str)) ∧ σ' = [some (.ref C), some (.str z), some (.ref dw), none, none, none, none, none, none], ?_, ?_⟩
  · refine ⟨_, rfl, rfl, _, rfl, ?_⟩
    show if (!decide (V.str z = V.str ("" : Str))) = true then _ else _
    rw [str_dec _ [] "" tl_nil]
    by_cases c : z.cps.toList = []
    · rw [decide_eq_true c]
      refine ⟨Nat.zero_le _, fun q hq => ?_⟩
      have ew : wordsT z = [] := by unfold wordsT; rw [if_pos c]
      rw [ew]
      exact ⟨q, Le.new hq, upd_self, rfl⟩
    · rw [decide_eq_false c]
      refine ⟨_, rfl, ⟨_, rfl⟩, _, _, rfl, rfl, by decide +kernel, by omega, fun q hq => ?_⟩
      have ew : Txt.split z (" " : Str) = wordsT z := by unfold wordsT; rw [if_neg c, split_words]
      rw [ew]
      exact ⟨q, Le.new hq, upd_self, rfl⟩
  rintro σ' H1 ⟨dw, l1, e1, rfl⟩
  have wlen : ∀ y ∈ wordsT z, y.length ≤ 600 := fun y hy => Nat.le_trans (words_le hy) hz
  have wfew := words_few (z := z)
  generalize hws : wordsT z = ws at *
  -- each is right
  refine ⟨fun σ' H' => Le H1 H' ∧ (∀ j, j < 4 → ∀ y, ws[j]? = some y → GoodW j y) ∧ ∃ x3 x4, σ' = [some (.ref C), some (.str z), some (.ref dw), x3, x4, none, none, none, none], ?_, ?_⟩
  · refine ⟨_, rfl, _, rfl, dw, _, rfl, .of e1, fun q hq => ?_⟩
    have ec : cutV (ws.map V.str) none (some 4) = (ws.take 4).map V.str := by
      have := cutV_t (ws.map V.str) 4
      rw [List.map_take]
      exact this
    rw [ec]
    have k1 := Le.new (o := .lst ((ws.take 4).map V.str)) hq
    refine ⟨q, _, rfl, .of upd_self, ?_⟩
    refine for_it (walk_enum (K := K) (a := q) (xs := (ws.take 4).map V.str)) (fun i σ' H' => Le (upd H1 q (.lst ((ws.take 4).map V.str))) H' ∧ (∀ j, j < i → ∀ y, ws[j]? = some y → GoodW j y) ∧ ∃ x3 x4, σ' = [some (.ref C), some (.str z), some (.ref dw), x3, x4, none, none, none, none]) ?_ ?_ ?_ ?_
    · exact ⟨.refl, fun j hj => absurd hj (Nat.not_lt_zero _), _, _, rfl⟩
    · rintro i σ' H' _ ⟨le, _⟩
      exact .of (le _ _ upd_self)
    · rintro i v σ' Ha Hb hi ⟨le, gd, x3, x4, rfl⟩ ⟨Tt, x, y, rfl, hT, rfl, hx, hy⟩
      have hx : V.int (i : Nat) = x := Option.some.inj hx
      subst hx
      have leT := le.trans (Le.new (o := .tup [.int (i : Nat), y]) hT)
      have hy : ((ws.take 4).map V.str)[i]? = some y := hy
      rw [List.getElem?_map] at hy
      obtain ⟨u, hu, rfl⟩ := Option.map_eq_some_iff.mp hy
      have i4 : i < 4 := by
        have := (List.getElem?_eq_some_iff.mp hu).1
        rw [List.length_take] at this
        omega
      have hu : ws[i]? = some u := by rw [List.getElem?_take_of_lt i4] at hu; exact hu
      have ulen := wlen u (List.mem_of_getElem? hu)
      refine ⟨Tt, _, rfl, .of upd_self, rfl, _, _, rfl, _, _, rfl, rfl, ?_⟩
      refine ⟨_, rfl, rfl, _, rfl, ?_⟩
      have good : ∀ {H3 : Hp}, Le (upd Ha Tt (.tup [.int (i : Nat), .str u])) H3 → GoodW i u → Le (upd H1 q (.lst ((ws.take 4).map V.str))) H3 ∧ (∀ j, j < i + 1 → ∀ y, ws[j]? = some y → GoodW j y) ∧ ∃ x3 x4, [some (V.ref C), some (.str z), some (.ref dw), some (.int (i : Nat)), some (.str u), none, none, none, none] = [some (.ref C), some (.str z), some (.ref dw), x3, x4, none, none, none, none] := fun l3 hg => by
        refine ⟨leT.trans l3, fun j hj y hy2 => ?_, _, _, rfl⟩
        by_cases c : j = i
        · rw [c, hu] at hy2
          cases hy2
          rw [c]
          exact hg
        · exact gd j (by omega) y hy2
      have bad : ¬ GoodW i u → Due ws (some i) := fun h => .inl ⟨i, u, rfl, i4, hu, h, gd⟩
      have log4 : ((i : Nat) : Int).natAbs.log2 < 1900 := by
        rw [Int.natAbs_natCast]
        have : i.log2 ≤ 4 := by
          rcases (show i = 0 ∨ i = 1 ∨ i = 2 ∨ i = 3 by omega) with rfl | rfl | rfl | rfl <;> decide
        omega
      have leH : ∀ {H3 : Hp}, Le (upd Ha Tt (.tup [.int (i : Nat), .str u])) H3 → Le H H3 := fun l3 => ((l1.trans k1).trans leT).trans l3
      refine ite2 (fun c => ?_) (fun c => ?_)
      · have i1 : i = 1 := by
          have := of_decide_eq_true c
          injection this with this
          omega
        refine ⟨_, rfl, _, rfl, by omega, fun b H3 l3 hb => ⟨_, rfl, ?_⟩⟩
        cases b with
        | true => exact good l3 (by unfold GoodW; rw [if_pos i1]; exact hb.mp rfl)
        | false =>
          have nb : ¬ GoodW i u := by
            unfold GoodW
            rw [if_pos i1]
            exact fun h => by have := hb.mpr h; cases this
          refine ⟨_, rfl, show 1 ≤ 1000 by decide, rd_raise (E := E) ⟨_, rfl, log4⟩ fun H' d l4 n4 e4 => ee i H' d (bad nb) ((leH l3).trans l4) ((leH l3).none n4) e4⟩
      · have i1 : i ≠ 1 := fun e => c (by rw [e]; rfl)
        refine ⟨_, rfl, _, rfl, by omega, fun b H3 l3 hb => ⟨_, rfl, ?_⟩⟩
        cases b with
        | true => exact good l3 (by unfold GoodW; rw [if_neg i1]; exact .inl (hb.mp rfl))
        | false =>
          have nr : ¬ IsRowL u.cps.toList := fun h => by have := hb.mpr h; cases this
          refine ⟨_, rfl, rfl, _, rfl, ?_⟩
          refine ite2 (fun c2 => ?_) (fun c2 => ?_)
          · have i2 : i = 2 := by
              have := of_decide_eq_true c2
              injection this with this
              omega
            refine ⟨_, rfl, rfl, _, rfl, ?_⟩
            by_cases c3 : u = ("-" : Str)
            · rw [decide_eq_true (by rw [c3])]
              exact good l3 (by unfold GoodW; rw [if_neg i1]; exact .inr ⟨i2, c3⟩)
            · have nb : ¬ GoodW i u := by
                unfold GoodW
                rw [if_neg i1]
                exact fun h => h.elim nr fun h => c3 h.2
              have e : decide (V.str u = V.str ("-" : Str)) = false := decide_eq_false fun h => c3 (V.str.inj h)
              show if (!decide (V.str u = V.str ("-" : Str))) = true then _ else _
              rw [e]
              exact ⟨_, rfl, show 1 ≤ 1000 by decide, rd_raise (E := E) ⟨_, rfl, log4⟩ fun H' d l4 n4 e4 => ee i H' d (bad nb) ((leH l3).trans l4) ((leH l3).none n4) e4⟩
          · have nb : ¬ GoodW i u := by
              unfold GoodW
              rw [if_neg i1]
              exact fun h => h.elim nr fun h => c2 (by rw [h.1]; rfl)
            exact ⟨_, rfl, show 1 ≤ 1000 by decide, rd_raise (E := E) ⟨_, rfl, log4⟩ fun H' d l4 n4 e4 => ee i H' d (bad nb) ((leH l3).trans l4) ((leH l3).none n4) e4⟩
    · rintro σ' H' ⟨le, gd, h⟩
      refine ⟨k1.trans le, fun j hj y hy => gd j ?_ y hy, h⟩
      have := (List.getElem?_eq_some_iff.mp hy).1
      rw [List.length_map, List.length_take]
      omega
  rintro σ' H2 ⟨l2, gd, x3, x4, rfl⟩
  have e2 := l2 _ _ e1
  have le2 := l1.trans l2
  refine ⟨fun σ' H' => H' = H2 ∧ ws.length = 4 ∧ σ' = [some (.ref C), some (.str z), some (.ref dw), x3, x4, none, none, none, none], ?_, ?_⟩
  · refine ⟨_, rfl, dw, _, rfl, .inl (.of e2), rfl, _, rfl, ?_⟩
    rw [List.length_map]
    refine ite2 (fun c => ?_) (fun c => ?_)
    · have n4 : ws.length ≠ 4 := fun e => by rw [e] at c; cases c
      have due : Due ws (some (min 4 ws.length)) := .inr ⟨gd, .inr ⟨n4, rfl⟩⟩
      refine ⟨_, rfl, dw, _, rfl, .inl (.of e2), _, _, rfl, rfl, _, rfl, ?_⟩
      rw [List.length_map]
      have lg : ∀ m : Nat, m ≤ 4 → ((m : Nat) : Int).natAbs.log2 < 1900 := fun m hm => by
        rw [Int.natAbs_natCast]
        rcases (show m = 0 ∨ m = 1 ∨ m = 2 ∨ m = 3 ∨ m = 4 by omega) with rfl | rfl | rfl | rfl | rfl <;> decide
      refine ite2 (fun c2 => ?_) (fun c2 => ?_)
      · have h4 : 4 < ws.length := by have := of_decide_eq_true c2; omega
        rw [Nat.min_eq_left (by omega)] at due
        exact ⟨show 1 ≤ 1000 by decide, rd_raise (E := E) ⟨_, rfl, lg 4 (by decide)⟩ fun H' d l4 n4 e4 => ee 4 H' d due (le2.trans l4) (le2.none n4) e4⟩
      · have h4 : ws.length < 4 := by
          have : ¬ (4 : Int) < ws.length := fun h => c2 (decide_eq_true h)
          omega
        rw [Nat.min_eq_right (by omega)] at due
        refine ⟨_, rfl, dw, _, rfl, .inl (.of e2), ?_⟩
        rw [List.length_map]
        exact ⟨show 1 ≤ 1000 by decide, rd_raise (E := E) ⟨_, rfl, lg ws.length (by omega)⟩ fun H' d l4 n4 e4 => ee ws.length H' d due (le2.trans l4) (le2.none n4) e4⟩
    · refine ⟨rfl, ?_, rfl⟩
      by_cases h : ws.length = 4
      · exact h
      · exfalso
        apply c
        show (!decide (V.int ((ws.length : Nat) : Int) = V.int 4)) = true
        rw [decide_eq_false]
        · rfl
        · intro e
          injection e with e
          exact h (by omega)
  rintro σ' H3 ⟨rfl, h4, rfl⟩
  have due : Due ws none := .inr ⟨gd, .inl ⟨h4, rfl⟩⟩
  match ws, h4 with
  | [a, b, c, d], _ =>
    have ga : GoodW 0 a := gd 0 (by decide) a rfl
    have gb : GoodW 1 b := gd 1 (by decide) b rfl
    have gc : GoodW 2 c := gd 2 (by decide) c rfl
    have gd' : GoodW 3 d := gd 3 (by decide) d rfl
    obtain ⟨la, a0, rfl, na⟩ : ∃ l : List Bool, l ≠ [] ∧ a = rowS l ∧ l.length = a.length := rowS_of (by
      unfold GoodW at ga
      rw [if_neg (by decide)] at ga
      exact ga.elim id fun h => absurd h.1 (by decide))
    obtain ⟨ld, d0, rfl, nd'⟩ : ∃ l : List Bool, l ≠ [] ∧ d = rowS l ∧ l.length = d.length := rowS_of (by
      unfold GoodW at gd'
      rw [if_neg (by decide)] at gd'
      exact gd'.elim id fun h => absurd h.1 (by decide))
    have wa := wlen (rowS la) (by simp)
    have wb := wlen b (by simp)
    have wc := wlen c (by simp)
    have wd := wlen (rowS ld) (by simp)
    obtain ⟨n, hn⟩ := num_text (by unfold GoodW at gb; rw [if_pos rfl] at gb; exact gb) wb
    refine ⟨_, rfl, dw, _, rfl, .of e2, rfl, ?_⟩
    refine ⟨_, _, rfl, _, _, rfl, _, _, rfl, _, _, rfl, rfl, ?_⟩
    refine ⟨_, rfl, _, rfl, _, n, rfl, hn, by omega, _, rfl, rfl, _, rfl, ?_⟩
    unfold GoodW at gc
    rw [if_neg (by decide)] at gc
    have fin := fun (m : List Bool) (hm : m.length ≤ 600) => make_day (C := C) (H := H3) (Q := Q) (E := C8.E0) la n m ld (Frm.mk la n m ld).mem a0 d0 (by omega) (by omega) (by omega) (fun _ => rfl) (fun p H' le hd h0 => qq p H' due (le2.trans le))
    by_cases hc : c = ("-" : Str)
    · subst hc
      refine iteT ?_
      have f0 := fin [] (by simp)
      rw [rowS_nil] at f0
      exact ⟨_, rfl, f0⟩
    · have e : decide (V.str c = V.str ("-" : Str)) = false := decide_eq_false fun h => hc (V.str.inj h)
      rw [e]
      refine iteF ?_
      obtain ⟨lc, c0, rfl, nc⟩ := rowS_of (gc.elim id fun h => absurd h.2 hc)
      exact ⟨_, rfl, _, rfl, fin lc (by omega)⟩
def sp_turnsX (C CB : Addr) : Sp := fun vs H Q E => ∃ n p : Int, vs = [.ref C, .int n, .int p] ∧ p.natAbs.log2 < 1900 ∧ (∀ q H', 1 ≤ p → p ≤ 60 → Le H H' → Q (.ref q) H') ∧
  ∀ H' d, ¬ (1 ≤ p ∧ p ≤ 60) → Le H H' → H d = none → H' d = some (.xd [("count", .int p)]) → E (.ref CB) (some d) H'
theorem turn_row {p : Int} (h : 1 ≤ p) : ("1" : Str) ++ Txt.mul ("0" : Str) (p - 1) = rowS (true :: List.replicate (p - 1).toNat false) := by
  have e1 : p - 1 = (((p - 1).toNat : Nat) : Int) := by omega
  rw [e1, ← rowS_0, rowS_mul, ← rowS_1, rowS_cat, Int.toNat_natCast]
  congr 1
  generalize (p - 1).toNat = k
  induction k with
  | zero => rfl
  | succ k ih =>
    rw [List.replicate_succ, List.flatten_cons, List.replicate_succ]
    have ih := List.append_cancel_left (as := [true]) (show [true] ++ (List.replicate k [false]).flatten = [true] ++ List.replicate k false from ih)
    rw [ih]
    rfl
theorem q_turnsX {C CB : Addr} (T : Txt K mg) (D : DSC K mg C) (G_LONGEST_TURN : ∃ u, mg "LONGEST_TURN" = some u ∧ L2.RelV (.int 60) u) (M : ClmOf K C "turns" "DaySet.turns" s_DaySet_turns P_DaySet_turns) (M_DaySet : Mak P w K mg base 4 "DaySet" C (sp_init C) [])
    (O_BadCount : OMk P w K mg base 1 "BadCount" CB (sp_err CB "count" isInt9)) : CMtX P w K mg base 6 C "turns" (sp_turnsX C CB) := by
  obtain ⟨mc, pp, g, fd, r, cm, F, B⟩ := M
  refine cmtX r cm F B sc_DaySet_turns (fun vs H Q E h => by obtain ⟨_, _, rfl, _⟩ := h; rfl) (fun cdv A outer s H vs Q E hr h => ?_)
  obtain ⟨n, p, rfl, hp, qq, ee⟩ := h
  have nd := sc_DaySet_turns.nd
  refine ⟨_, (C8.pss_cut (ps_if (pt_not (pt_chain op_le op_le pe_int (pv 2) (pe_gc rfl G_LONGEST_TURN))) (pss_one (ps_raise rfl (takes_of rfl rfl rfl rfl) (pmk_O O_BadCount (hr.mono (by decide)) rfl (pa_cons (pv 2) pa_nil)))) pss_nil)
      (pss_cons (ps_set (i := 3) nd rfl (Or.inl rfl) (pe_op op_add_str pe_str (pe_op op_mulS pe_str (pe_op op_sub (pv 2) pe_int))))
      (pss_one (ps_ret (pe_mk M_DaySet hr (by decide) rfl (pa_cons (pv 3) (pa_cons (pv 1) (pa_cons pe_str (pa_cons (pv 3) pa_nil))))))))), ?_⟩
  refine ⟨fun σ' H' => H' = H ∧ 1 ≤ p ∧ p ≤ 60 ∧ σ' = [some (.ref C), some (.int n), some (.int p), none], ?_, ?_⟩
  · refine ⟨_, rfl, _, _, rfl, rfl, _, rfl, ?_⟩
    have boom : ¬ (1 ≤ p ∧ p ≤ 60) → ∀ a, H a = none → sp_err CB "count" isInt9 (.ref a :: ([.int p] ++ [])) (upd H a (exo a CB none)) (fun v' H2 => v' = .non ∧ ∃ (d : Addr) (fs : List (Str × V)), H2 a = some (exo a CB (some d)) ∧ H2 d = some (exd d fs) ∧ H d = none ∧ E (.ref CB) (some d) (upd (L2.del H2 a) d (.xd fs))) fun _ _ _ => False :=
      fun hb => rd_raise (E := E) ⟨_, rfl, hp⟩ fun H' d l4 n4 e4 => ee H' d hb l4 n4 e4
    refine ite2 (fun c => ?_) (fun c => ?_)
    · have p1 : 1 ≤ p := of_decide_eq_true c
      refine ⟨_, _, rfl, rfl, _, rfl, ?_⟩
      by_cases p2 : p ≤ 60
      · rw [decide_eq_true p2]
        exact ⟨rfl, p1, p2, rfl⟩
      · rw [decide_eq_false p2]
        exact ⟨_, rfl, show 1 ≤ 1000 by decide, boom fun h => p2 h.2⟩
    · have p1 : ¬ 1 ≤ p := fun h => c (decide_eq_true h)
      exact ⟨_, rfl, _, rfl, show 1 ≤ 1000 by decide, boom fun h => p1 h.1⟩
  rintro σ' H' ⟨rfl, p1, p2, rfl⟩
  refine ⟨_, rfl, _, _, rfl, rfl, ?_⟩
  obtain ⟨k, hk⟩ : ∃ k : Nat, p - 1 = (k : Int) := ⟨(p - 1).toNat, by omega⟩
  have k60 : k ≤ 60 := by omega
  have z0 : (("0" : Str)).length = 1 := by decide +kernel
  have z1 : (Txt.mul ("0" : Str) (k : Int)).length ≤ 100 := by
    rw [← rowS_0, rowS_mul, rowS_len, List.length_flatten, List.map_replicate]
    simp
    omega
  refine ⟨_, k, rfl, congrArg V.int hk, by rw [z0]; omega, by omega, ?_⟩
  refine ⟨_, _, rfl, rfl, ?_, ?_⟩
  · have : (("1" : Str)).length = 1 := by decide +kernel
    rw [this]
    exact le_szl _ (by omega)
  rw [← hk]
  rw [turn_row p1]
  have fin := make_day (C := C) (H := H') (Q := Q) (E := C8.E0) (true :: List.replicate (p - 1).toNat false) n [] (true :: List.replicate (p - 1).toNat false) (Frm.mk (true :: List.replicate (p - 1).toNat false) n [] (true :: List.replicate (p - 1).toNat false)).mem (by simp) (by simp) (by simp; omega) (by simp) (by simp; omega) (fun _ => rfl) (fun q H2 le hd h0 => qq q H2 p1 p2 le)
  rw [rowS_nil] at fin
  exact ⟨_, rfl, _, rfl, _, rfl, fin⟩
end
end Od
end
section
set_option Elab.async false
set_option linter.all false
set_option maxRecDepth 100000
set_option maxHeartbeats 2000000
/-! {k: v for a in xs for b in ys}: a dict comprehension of two clauses (the one of one clause: HandS.DictComp; the list of two: HandS.Comp) -/
namespace Od
open PySem PySem.Spec PyProof.Rows L2
theorem compTurn2_outD (kx vx t0 i0 t1 i1 : Expr) (ifs0 ifs1 : List Expr) (scope : Scope) (pos : Pos) (it acc : Value) (env : Env) :
    compTurn (.DictComp kx vx [⟨t0, i0, ifs0, 0⟩, ⟨t1, i1, ifs1, 0⟩] scope pos) 0 it acc env = (do
      standAt i0.pos
      match ← pyNext it with
      | none => pure (.done .next)
      | some v =>
        letOwnedTupleGo t0 it v
        assign t0 env v
        let mut ok := true
        for c in ifs0 do
          if ok then ok ← isTrue c env (eval c env)
        if ok then
          let x ← eval i1 env
          standAt i1.pos
          let x ← foldedSetIterable i1 env x
          let _ ← runOwn (.compStart (.DictComp kx vx [⟨t0, i0, ifs0, 0⟩, ⟨t1, i1, ifs1, 0⟩] scope pos) 1 (← holding [x] (pyIter x)) acc env) env
        again (.compLoop (.DictComp kx vx [⟨t0, i0, ifs0, 0⟩, ⟨t1, i1, ifs1, 0⟩] scope pos) 0 it acc env)) := by rfl
theorem compTurn2_inD (kx vx t0 i0 t1 i1 : Expr) (ifs0 ifs1 : List Expr) (scope : Scope) (pos : Pos) (it : Value) (D : Addr) (env : Env) :
    compTurn (.DictComp kx vx [⟨t0, i0, ifs0, 0⟩, ⟨t1, i1, ifs1, 0⟩] scope pos) 1 it (.ref D) env = (do
      standAt i1.pos
      match ← pyNext it with
      | none => pure (.done .next)
      | some v =>
        letOwnedTupleGo t1 it v
        assign t1 env v
        let mut ok := true
        for c in ifs1 do
          if ok then ok ← isTrue c env (eval c env)
        if ok then
          (do
            let kv ← eval kx env
            let vv ← holding [kv] (eval vx env)
            standAt { kx.pos with endLine := vx.pos.endLine, endCol := vx.pos.endCol }
            holding [kv, vv] (dictSet D kv vv))
        again (.compLoop (.DictComp kx vx [⟨t0, i0, ifs0, 0⟩, ⟨t1, i1, ifs1, 0⟩] scope pos) 1 it (.ref D) env)) := by rfl

section
variable {prog : Program} {w : World} {A : Around} {R : Result → Shared → Prop} {s : Shared} {kx vx t0 i0 t1 i1 : Expr} {ifs0 ifs1 : List Expr} {scope : Scope} {pos : Pos} {it acc : Value} {env : Env}
/-- the loop of the first clause -/
theorem compLoop2_outD (hs : ∀ x, foldedSetIterable i1 env x = pure x) (I : Nat → Shared → Prop)
    (turn : ∀ n s, I n s → wpAny (model prog w) A (pyNext it) (fun r s₁ => match r with
      | none => R (.ok .next) s₁
      | some v => wpAny (model prog w) A (letOwnedTupleGo t0 it v) (fun _ s₁' => wpAny (model prog w) A (assign t0 env v) (fun _ s₂ =>
          wpAny (model prog w) A (forIn ifs0 true fun c r => if r = true then do let ok ← isTrue c env (eval c env); pure (ForInStep.yield ok) else pure (ForInStep.yield r)) (fun ok s₃ =>
            if ok = true then wpAny (model prog w) A (eval i1 env) (fun x s₄ => wpAny (model prog w) A (pyIter x) (fun it1 s₅ =>
              codeAny (model prog w) A (.compStart (.DictComp kx vx [⟨t0, i0, ifs0, 0⟩, ⟨t1, i1, ifs1, 0⟩] scope pos) 1 it1 acc env) (fun r s' => match r with
                | .ok _ => ∃ m, m < n ∧ I m s'
                | .error _ => False) s₅) (notedBy (model prog w) A env fun e s' => R (.error e) s') s₄) (notedBy (model prog w) A env fun e s' => R (.error e) s') s₃
            else ∃ m, m < n ∧ I m s₃) (notedBy (model prog w) A env fun e s' => R (.error e) s') s₂) (notedBy (model prog w) A env fun e s' => R (.error e) s') s₁') (notedBy (model prog w) A env fun e s' => R (.error e) s') s₁) (notedBy (model prog w) A env fun e s' => R (.error e) s') s)
    (n : Nat) (h : I n s) :
    codeAny (model prog w) A (.compLoop (.DictComp kx vx [⟨t0, i0, ifs0, 0⟩, ⟨t1, i1, ifs1, 0⟩] scope pos) 0 it acc env) R s := by
  refine codeAny_loop rfl I (fun n s hI => ?_) n h
  show wpAny _ A ((compTurn (.DictComp kx vx [⟨t0, i0, ifs0, 0⟩, ⟨t1, i1, ifs1, 0⟩] scope pos) 0 it acc env).onRaise (fun x => do noteFrame x env; theTreesLotGoes x)) _ _ s
  refine wpAny_noted ?_
  rw [compTurn2_outD]
  refine wpAny_bind (wpAny_standAt (wpAny_bind (wpAny_mono (turn n s hI) (fun r s₁ h₁ => ?_) fun _ _ h' => h')))
  cases r with
  | none => exact wpAny_pure h₁
  | some v =>
    refine wpAny_bind (wpAny_mono h₁ (fun _ s₁' h₁' => ?_) fun _ _ h' => h')
    refine wpAny_bind (wpAny_mono h₁' (fun _ s₂ h₂ => wpAny_bind (wpAny_mono h₂ (fun ok s₃ h₃ => ?_) fun _ _ h' => h')) fun _ _ h' => h')
    cases ok with
    | false => exact wpAny_pure ⟨rfl, h₃⟩
    | true =>
      refine wpAny_bind (wpAny_mono h₃ (fun x s₄ h₄ => ?_) fun _ _ h' => h')
      refine wpAny_bind (wpAny_standAt (wpAny_bind (wpAny_of_eq (hs x) (wpAny_bind (wpAny_holding (wpAny_mono h₄ (fun it1 s₅ h₅ => ?_) fun _ _ h' => h'))))))
      refine wpAny_bind (wpAny_runOwn ?_)
      rw [Around.mark_none]
      refine codeAny_mono h₅ fun r s' hr => ?_
      cases r with
      | ok f =>
        first
          | exact wpAny_pure ⟨rfl, hr⟩
          | exact wpAny_bind (wpAny_pure (wpAny_pure ⟨rfl, hr⟩))
      | error e => exact hr.elim
/-- the loop of the second -/
theorem compLoop2_inD {D : Addr} (I : Nat → Shared → Prop)
    (turn : ∀ n s, I n s → wpAny (model prog w) A (pyNext it) (fun r s₁ => match r with
      | none => R (.ok .next) s₁
      | some v => wpAny (model prog w) A (letOwnedTupleGo t1 it v) (fun _ s₁' => wpAny (model prog w) A (assign t1 env v) (fun _ s₂ =>
          wpAny (model prog w) A (forIn ifs1 true fun c r => if r = true then do let ok ← isTrue c env (eval c env); pure (ForInStep.yield ok) else pure (ForInStep.yield r)) (fun ok s₃ =>
            if ok = true then wpAny (model prog w) A (eval kx env) (fun kv s₄ => wpAny (model prog w) A (eval vx env) (fun vv s₅ =>
              wpAny (model prog w) A (dictSet D kv vv) (fun _ s₆ => ∃ m, m < n ∧ I m s₆) (notedBy (model prog w) A env fun e s' => R (.error e) s') s₅) (notedBy (model prog w) A env fun e s' => R (.error e) s') s₄) (notedBy (model prog w) A env fun e s' => R (.error e) s') s₃
            else ∃ m, m < n ∧ I m s₃) (notedBy (model prog w) A env fun e s' => R (.error e) s') s₂) (notedBy (model prog w) A env fun e s' => R (.error e) s') s₁') (notedBy (model prog w) A env fun e s' => R (.error e) s') s₁) (notedBy (model prog w) A env fun e s' => R (.error e) s') s)
    (n : Nat) (h : I n s) :
    codeAny (model prog w) A (.compLoop (.DictComp kx vx [⟨t0, i0, ifs0, 0⟩, ⟨t1, i1, ifs1, 0⟩] scope pos) 1 it (.ref D) env) R s := by
  refine codeAny_loop rfl I (fun n s hI => ?_) n h
  show wpAny _ A ((compTurn (.DictComp kx vx [⟨t0, i0, ifs0, 0⟩, ⟨t1, i1, ifs1, 0⟩] scope pos) 1 it (.ref D) env).onRaise (fun x => do noteFrame x env; theTreesLotGoes x)) _ _ s
  refine wpAny_noted ?_
  rw [compTurn2_inD]
  refine wpAny_bind (wpAny_standAt (wpAny_bind (wpAny_mono (turn n s hI) (fun r s₁ h₁ => ?_) fun _ _ h' => h')))
  cases r with
  | none => exact wpAny_pure h₁
  | some v =>
    refine wpAny_bind (wpAny_mono h₁ (fun _ s₁' h₁' => ?_) fun _ _ h' => h')
    refine wpAny_bind (wpAny_mono h₁' (fun _ s₂ h₂ => wpAny_bind (wpAny_mono h₂ (fun ok s₃ h₃ => ?_) fun _ _ h' => h')) fun _ _ h' => h')
    cases ok with
    | false => exact wpAny_pure ⟨rfl, h₃⟩
    | true =>
      exact wpAny_bind (wpAny_bind (wpAny_mono h₃ (fun kv s₄ h₄ => wpAny_bind (wpAny_holding (wpAny_mono h₄ (fun vv s₅ h₅ => wpAny_bind (wpAny_standAt (wpAny_holding (wpAny_mono h₅ (fun _ s₆ h₆ => wpAny_pure ⟨rfl, h₆⟩) fun _ _ h' => h')))) fun _ _ h' => h'))) fun _ _ h' => h'))
/-- the second clause's start -/
theorem compStart1_okD (h0 : codeAny (model prog w) A (.compLoop (.DictComp kx vx [⟨t0, i0, ifs0, 0⟩, ⟨t1, i1, ifs1, 0⟩] scope pos) 1 it acc env) R s)
    (h : wpAny (model prog w) A (pyIter it) (fun it' s' => codeAny (model prog w) A (.compLoop (.DictComp kx vx [⟨t0, i0, ifs0, 0⟩, ⟨t1, i1, ifs1, 0⟩] scope pos) 1 it' acc env) R s')
      (notedBy (model prog w) A env fun x s' => R (.error x) s') s) :
    codeAny (model prog w) A (.compStart (.DictComp kx vx [⟨t0, i0, ifs0, 0⟩, ⟨t1, i1, ifs1, 0⟩] scope pos) 1 it acc env) R s := by
  refine codeAny_of_tree ?_
  show wpAny _ _ ((compStart (.DictComp kx vx [⟨t0, i0, ifs0, 0⟩, ⟨t1, i1, ifs1, 0⟩] scope pos) 1 it acc env).onRaise (fun x => do noteFrame x env; standAt theWindowsPlace)) _ _ s
  refine wpAny_notedAt ?_
  unfold compStart
  show wpAny _ _ (ask >>= _) _ _ s
  refine wpAny_bind (wpAny_askSetting (wpAny_ite ?_))
  split
  · first
      | exact wpAny_bind (wpAny_pure (wpAny_pure (And.intro rfl h0)))
      | exact wpAny_pure (And.intro rfl h0)
  · first
      | exact wpAny_bind (wpAny_rule (wpAny_bind (wpAny_standAt (wpAny_bind (wpAny_mono h (fun it' s' h' => wpAny_pure (And.intro rfl h')) fun _ _ x => x)))))
      | (refine wpAny_bind (wpAny_rule ?_); show wpAny _ _ (standAt i1.pos >>= _) _ _ s; exact wpAny_bind (wpAny_standAt (wpAny_bind (wpAny_mono h (fun it' s' h' => wpAny_pure (And.intro rfl h')) fun _ _ x => x))))
end

section
variable {X : Cx}
/-- [elt for tg in iter if .. for tg1 in iter1 if ..]: behind the first clause's store and tests the second source's own loop, from which Nx is reached. vs: the block's names; vs1: those of the second target -/
def tLc2D (wi : TI) (g : TG) (tt : TT) (wi1 : TI) (g1 : TG) (tt1 : TT) (tk tv : TE) (vs vs1 : List Nat) : TE := fun σ H Q => wi σ H fun J H1 => ∀ D, H1 D = none → ∃ W : Nat → Nat → Hp → Prop, (∃ m, W 0 m (upd H1 D (.dK []))) ∧ ∀ i m H, W i m H →
  (J.stop i H ∧ Q (.ref D) H) ∨ (J.go i H ∧ ∃ Nx : Hp → Prop, (∀ H', Nx H' → ∃ m', m' < m ∧ W (i + 1) m' H') ∧ ∀ x H', J.yld i H x H' → g x (wipe σ vs) H' fun σ2 H2 => wipe σ2 vs = wipe σ vs ∧ tt σ2 H2 fun b H3 =>
    if b = true then wi1 σ2 H3 fun J1 H4 => ∃ W1 : Nat → Nat → Hp → Prop, (∃ m, W1 0 m H4) ∧ ∀ j k H, W1 j k H →
      (J1.stop j H ∧ Nx H) ∨ (J1.go j H ∧ ∃ Nx1 : Hp → Prop, (∀ H', Nx1 H' → ∃ k', k' < k ∧ W1 (j + 1) k' H') ∧ ∀ x H', J1.yld j H x H' → g1 x (wipe σ2 vs1) H' fun σ3 H5 => wipe σ3 vs1 = wipe σ2 vs1 ∧ tt1 σ3 H5 fun b H6 =>
        if b = true then tk σ3 H6 fun y H7 => tv σ3 H7 fun z H8 => ∃ kvs k, y = kV k ∧ H8 D = some (.dK kvs) ∧ kvs.length < sizeLine ∧ Nx1 (upd H8 D (.dK (putK kvs k z))) else Nx1 H6)
    else Nx H3)
theorem lc2_coreD {pins : List (Addr × Obj)} {s : Shared} {σ : L2.St} {H : Hp} {Q : VK} {kx vx tg iter tg1 iter1 : Expr} {ifs ifs1 : List Expr} {scope : Scope} {own : List (Str × Nat)} {vs1 : List Nat} {pos pos' : Pos} {wi wi1 : TI} {g g1 : TG} {tt tt1 : TT} {tk tv : TE} {use : Option (Value → Sem Unit)} {Qf : Value → Shared → Prop}
    (hc : X.calm = true) (hN : X.N.Nodup) (I : Inv X pins σ H s) (hi : PI X tg iter wi) (ok : BlkOk X.N X.env.scope scope own) (hv : ∀ i ∈ vs1, i ∈ own.map (·.2))
    (hg : ∀ (s : Shared) (H : Hp) (C : Addr) (cl : List (Str × Addr)) (fp : List Addr), PG (X.blk s H scope (compEnvC scope cl C X.env) fp) tg g) (ht : ∀ (s : Shared) (H : Hp) (C : Addr) (cl : List (Str × Addr)) (fp : List Addr), PTs (X.blk s H scope (compEnvC scope cl C X.env) fp) ifs tt)
    (hk : ∀ (s : Shared) (H : Hp) (C : Addr) (cl : List (Str × Addr)) (fp : List Addr), PE (X.blk s H scope (compEnvC scope cl C X.env) fp) kx tk) (he : ∀ (s : Shared) (H : Hp) (C : Addr) (cl : List (Str × Addr)) (fp : List Addr), PE (X.blk s H scope (compEnvC scope cl C X.env) fp) vx tv) (hs : ∀ x, foldedSetIterable iter X.env x = pure x)
    (hi1 : ∀ (s : Shared) (H : Hp) (C : Addr) (cl : List (Str × Addr)) (fp : List Addr), PI (X.blk s H scope (compEnvC scope cl C X.env) fp) tg1 iter1 wi1)
    (hg1 : ∀ (s : Shared) (H : Hp) (C : Addr) (cl : List (Str × Addr)) (fp : List Addr), PG (X.blk s H scope (compEnvC scope cl C X.env) fp) tg1 g1)
    (ht1 : ∀ (s : Shared) (H : Hp) (C : Addr) (cl : List (Str × Addr)) (fp : List Addr), PTs (X.blk s H scope (compEnvC scope cl C X.env) fp) ifs1 tt1)
    (hs1 : ∀ env x, foldedSetIterable iter1 env x = pure x)
    (h : tLc2D wi g tt wi1 g1 tt1 tk tv (own.map (·.2)) vs1 σ H Q)
    (hRR : ∀ D C s' m H', Inv X pins σ H' s' → Q (.ref D) H' → s'.heap.Ns C m → FpOk X pins H' C → compPost (model X.prog X.w) X.A X.xe use Qf (.ref D) C (.ok .next) s') :
    wpAny (model X.prog X.w) X.A (comprehension (.DictComp kx vx [⟨tg, iter, ifs, 0⟩, ⟨tg1, iter1, ifs1, 0⟩] scope pos) scope X.env pos' newDict false (eval iter X.env) use) Qf X.xe s := by
  have hfree : ∀ y ∈ scope.names, y.2 = .free → ∃ c, X.env.cells.lookup y.1 = some c := fun y hy e => by
    rcases ok.free y hy e with k | k
    · exact I.ok.has _ (.inl k)
    · exact I.ok.has _ (.inr k)
  refine wpAny_comprehension_free (use := use) rfl hs (closure_ok hfree) ok.kind (fun y hy e => by rw [ok.uniq y hy, e])
    (thn (hi.run pins s σ H _ I h) fun xv s1 hx => thn hx fun itv s2 h2 => ?_)
  obtain ⟨it, fp, tn, J, H2, e, I2, T, st2, f2, q⟩ := h2
  subst e
  refine wpAny_newObj_type (newEnv_comp ?_)
  generalize hD : s2.heap.objs.size = D
  have hDn : H2 D = none := I2.hok.fresh (Nat.le_of_eq hD)
  obtain ⟨W, ⟨m0, w0⟩, turn⟩ := q D hDn
  -- the new list
  generalize hs3 : ({ s2 with heap := s2.heap.push { cls := .type "dict", data := .dict #[] } } : Shared) = s3
  have I3 : Inv X pins σ (upd H2 D (.dK [])) s3 := by
    rw [← hs3]
    refine I2.laid (t' := s2.toks) (fun b o e => Heap.get?_push_of_some _ e) (Nat.le_of_eq hD) ?_
    rw [← hD]
    exact dk_empty s2.heap I2.big
  have h3 : s3.heap = s2.heap.push { cls := .type "dict", data := .dict #[] } := by rw [← hs3]
  have sz : ∀ b ∈ fp, b < s2.heap.objs.size := fun b hb => by
    obtain ⟨o, e, _⟩ := T.obj _ _ st2 b hb
    exact Heap.lt_size e
  have f3 : ∀ b ∈ fp, FpOk X pins (upd H2 D (.dK [])) b ∧ b < s3.heap.objs.size := fun b hb => by
    have hlt := sz b hb
    refine ⟨⟨?_, (f2 b hb).2⟩, by rw [h3, Heap.size_push]; exact Nat.lt_succ_of_lt hlt⟩
    rw [upd_ne (by rw [← hD]; exact Nat.ne_of_lt hlt)]
    exact (f2 b hb).1
  have st3 : tn 0 s3.heap := T.keep _ _ _ st2 fun b _ o e => by rw [h3]; exact Heap.get?_push_of_some _ e
  have I4 := block_start I3 ok hN f3
  have pg := hg s3 (upd H2 D (.dK [])) s3.heap.objs.size (cellsFrom (s3.heap.objs.size + 1) scope.names (cloFrom X.env.cells scope.names [])) fp
  have pt := ht s3 (upd H2 D (.dK [])) s3.heap.objs.size (cellsFrom (s3.heap.objs.size + 1) scope.names (cloFrom X.env.cells scope.names [])) fp
  have pk := hk s3 (upd H2 D (.dK [])) s3.heap.objs.size (cellsFrom (s3.heap.objs.size + 1) scope.names (cloFrom X.env.cells scope.names [])) fp
  have pe := he s3 (upd H2 D (.dK [])) s3.heap.objs.size (cellsFrom (s3.heap.objs.size + 1) scope.names (cloFrom X.env.cells scope.names [])) fp
  have pi1 := hi1 s3 (upd H2 D (.dK [])) s3.heap.objs.size (cellsFrom (s3.heap.objs.size + 1) scope.names (cloFrom X.env.cells scope.names [])) fp
  have pg1 := hg1 s3 (upd H2 D (.dK [])) s3.heap.objs.size (cellsFrom (s3.heap.objs.size + 1) scope.names (cloFrom X.env.cells scope.names [])) fp
  have pt1 := ht1 s3 (upd H2 D (.dK [])) s3.heap.objs.size (cellsFrom (s3.heap.objs.size + 1) scope.names (cloFrom X.env.cells scope.names [])) fp
  show codeAny _ _ (.compStart (.DictComp kx vx [⟨tg, iter, ifs, 0⟩, ⟨tg1, iter1, ifs1, 0⟩] scope pos) 0 (.ref it) (.ref D) (compEnvC scope (cellsFrom (s3.heap.objs.size + 1) scope.names (cloFrom X.env.cells scope.names [])) s3.heap.objs.size X.env)) (compPost (model X.prog X.w) X.A X.xe use Qf (.ref D) s3.heap.objs.size) { s3 with heap := pushCells (s3.heap.push { cls := .type "dict", data := .dict #[] }) scope.names }
  have nfp : ∀ b ∈ fp, (upd H2 D (.dK [])) b = none := fun b hb => (f3 b hb).1.1
  generalize hce : compEnvC scope (cellsFrom (s3.heap.objs.size + 1) scope.names (cloFrom X.env.cells scope.names [])) s3.heap.objs.size X.env = ce at I4 pg pt pk pe pi1 pg1 pt1 ⊢
  have cL : ce.locals = s3.heap.objs.size := by subst hce; rfl
  generalize hH3 : upd H2 D (.dK []) = H3 at I3 I4 pg pt pk pe pi1 pg1 pt1 w0 nfp f3
  generalize hs4 : ({ s3 with heap := pushCells (s3.heap.push { cls := .type "dict", data := .dict #[] }) scope.names } : Shared) = s4 at I4 ⊢
  have st4 : tn 0 s4.heap := T.keep _ _ _ st3 fun b _ o e => by rw [← hs4]; exact pushCells_keeps _ _ _ _ (Heap.get?_push_of_some _ e)
  have stat : ∀ {σ' : L2.St} {H' : Hp} {s' : Shared}, Inv (X.blk s3 H3 scope ce fp) [] σ' H' s' → (∀ b ∈ fp, H' b = none) → ∀ b ∈ fp, FpOk (X.blk s3 H3 scope ce fp) [] H' b := fun {σ' H' s'} I' hn b hb =>
    ⟨hn b hb, (I'.ok.exf b hb).1, I'.ok.exfs b hb, .inl hb, fun x c e => (I'.ok.exf b hb).2 x c e, fun p hp => absurd (show p ∈ ([] : List (Addr × Obj)) ++ [] from hp) (by simp)⟩
  have loop : codeAny (model X.prog X.w) X.A (.compLoop (.DictComp kx vx [⟨tg, iter, ifs, 0⟩, ⟨tg1, iter1, ifs1, 0⟩] scope pos) 0 (.ref it) (.ref D) ce) (compPost (model X.prog X.w) X.A X.xe use Qf (.ref D) s3.heap.objs.size) s4 := by
    refine compLoop2_outD (hs1 ce) (fun n s' => ∃ i H', Inv (X.blk s3 H3 scope ce fp) [] (wipe σ (own.map (·.2))) H' s' ∧ tn i s'.heap ∧ (∀ b ∈ fp, H' b = none) ∧ W i n H') ?_ m0 ⟨0, H3, I4, st4, nfp, w0⟩
    rintro n s5 ⟨i, H5, I5, st5, n5, w5⟩
    rcases turn i n H5 w5 with ⟨stop, qq⟩ | ⟨go, Nx, hNx, step⟩
    · have td := T.done (X.blk s3 H3 scope ce fp) rfl rfl rfl hc i [] s5 _ H5 (fun _ _ => False) I5 (stat I5 n5) st5 stop
      refine thnF td fun r s6 ⟨hr, I6⟩ => ?_
      subst hr
      -- back in the def's context
      have I7 : Inv X pins σ H5 s6 := I3.call' (ch := fp) I6.os I6.base I6.hok I6.bare fun b hb => ⟨(f3 b hb).1.2.2.2.1, (f3 b hb).1.2.1, (f3 b hb).1.2.2.2.2.1, (f3 b hb).1.2.2.2.2.2⟩
      have nC : H5 s3.heap.objs.size = none := by
        have z : H5 ce.locals = none := I6.free
        rw [cL] at z
        exact z
      obtain ⟨m, hn, _⟩ := I6.loc
      have hn : s6.heap.Ns ce.locals m := hn
      rw [cL] at hn
      exact hRR D s3.heap.objs.size s6 m H5 I7 qq hn (I3.fpOk (Nat.le_refl _) nC)
    · have ti := T.item (X.blk s3 H3 scope ce fp) rfl rfl rfl hc i [] s5 _ H5 (fun _ _ => False) I5 (stat I5 n5) st5 go
      refine thnF ti fun r s6 ⟨u, hr, h6⟩ => ?_
      subst hr
      refine thnF h6 fun _ s7 ⟨x, H7, I7, r7, y7, st7, n7⟩ => ?_
      have I7' := I7.pinned (stat I7 n7) (T.obj _ _ st7)
      refine thnF (pg.run _ s7 _ H7 x u _ I7' r7 (step x H7 y7)) fun _ s8 ⟨σ8, H8, I8, hw8, q8⟩ => ?_
      refine thnF (pt.run _ s8 σ8 H8 _ I8 q8) fun b s9 ⟨H9, I9, q9⟩ => ?_
      -- the turn's end, from any slots that know what the block knew at its start
      have fin : ∀ {σ9 : L2.St} {s' : Shared} {H' : Hp}, Inv (X.blk s3 H3 scope ce fp) ([] ++ pinsAt fp s7.heap) σ9 H' s' → (wipe σ (own.map (·.2))).length = σ9.length → (∀ (j : Nat) v, (wipe σ (own.map (·.2)))[j]? = some (some v) → σ9[j]? = some (some v)) → Nx H' →
          ∃ m, m < n ∧ ∃ i H', Inv (X.blk s3 H3 scope ce fp) [] (wipe σ (own.map (·.2))) H' s' ∧ tn i s'.heap ∧ (∀ b ∈ fp, H' b = none) ∧ W i m H' := fun {σ9 s' H'} I' hl hk nx => by
        obtain ⟨m', hm, w'⟩ := hNx H' nx
        have pin' : ∀ b ∈ fp, ∀ o, s7.heap.get? b = some o → s'.heap.get? b = some o ∧ H' b = none := fun b hb o e =>
          let z := I'.pin (b, o) (List.mem_append_right _ (List.mem_append_right _ (mem_pinsAt hb e)))
          ⟨z.1, z.2.1⟩
        refine ⟨m', hm, i + 1, H', (I'.unpinned (pins := [])).weak hl hk, T.keep _ _ _ st7 fun b hb o e => (pin' b hb o e).1, fun b hb => ?_, w'⟩
        obtain ⟨o, e, _⟩ := T.obj _ _ st7 b hb
        exact (pin' b hb o e).2
      have hl8 : (wipe σ (own.map (·.2))).length = σ8.length := by rw [← hw8, wipe_length]
      have hk8 : ∀ (j : Nat) v, (wipe σ (own.map (·.2)))[j]? = some (some v) → σ8[j]? = some (some v) := fun j v e => by
        rw [← hw8] at e
        exact (wipe_some e).1
      have hk9 : ∀ (j : Nat) v, (wipe σ (own.map (·.2)))[j]? = some (some v) → (wipe σ8 vs1)[j]? = some (some v) := fun j v e => by
        rw [← hw8] at e
        obtain ⟨e1, e2⟩ := wipe_some e
        rw [wipe_out fun z => e2 (hv j z)]
        exact e1
      cases b with
      | false =>
        simp only [Bool.false_eq_true, if_false] at q9 ⊢
        exact fin I9 hl8 hk8 q9
      | true =>
        simp only [if_true] at q9 ⊢
        refine thnF (pi1.run _ s9 σ8 H9 _ I9 q9) fun xv s10 hx => thnF hx fun itv s11 h11 => ?_
        obtain ⟨it1, fp1, tn1, J1, H11, e1, I11, T1, st11, f11, W1, ⟨m1, w1⟩, turn1⟩ := h11
        subst e1
        -- the inner loop
        have stat1 : ∀ {H' : Hp}, (∀ b ∈ fp1, H' b = none) → ∀ b ∈ fp1, FpOk (X.blk s3 H3 scope ce fp) ([] ++ pinsAt fp s7.heap) H' b := fun hn b hb => ⟨hn b hb, (f11 b hb).2⟩
        have loop1 : codeAny (model X.prog X.w) X.A (.compLoop (.DictComp kx vx [⟨tg, iter, ifs, 0⟩, ⟨tg1, iter1, ifs1, 0⟩] scope pos) 1 (.ref it1) (.ref D) ce)
            (fun r s' => match r with
              | .ok _ => ∃ m, m < n ∧ ∃ i H', Inv (X.blk s3 H3 scope ce fp) [] (wipe σ (own.map (·.2))) H' s' ∧ tn i s'.heap ∧ (∀ b ∈ fp, H' b = none) ∧ W i m H'
              | .error _ => False) s11 := by
          refine compLoop2_inD (fun k s' => ∃ j H', Inv (X.blk s3 H3 scope ce fp) ([] ++ pinsAt fp s7.heap) (wipe σ8 vs1) H' s' ∧ tn1 j s'.heap ∧ (∀ b ∈ fp1, H' b = none) ∧ W1 j k H') ?_ m1 ⟨0, H11, I11.weak (wipe_length _ _) (fun j v e => (wipe_some e).1), st11, fun b hb => (f11 b hb).1, w1⟩
          rintro k s12 ⟨j, H12, I12, st12, n12, w12⟩
          rcases turn1 j k H12 w12 with ⟨stop1, nx1⟩ | ⟨go1, Nx1, hNx1, step1⟩
          · refine thnF (T1.done (X.blk s3 H3 scope ce fp) rfl rfl rfl hc j _ s12 (wipe σ8 vs1) H12 (fun _ _ => False) I12 (stat1 n12) st12 stop1) fun r s13 ⟨hr, I13⟩ => ?_
            subst hr
            exact fin I13 (hl8.trans (wipe_length σ8 vs1).symm) hk9 nx1
          · refine thnF (T1.item (X.blk s3 H3 scope ce fp) rfl rfl rfl hc j _ s12 (wipe σ8 vs1) H12 (fun _ _ => False) I12 (stat1 n12) st12 go1) fun r s13 ⟨u1, hr, h13⟩ => ?_
            subst hr
            refine thnF h13 fun _ s14 ⟨x1, H14, I14, r14, y14, st14, n14⟩ => ?_
            have I14' := I14.pinned (stat1 n14) (T1.obj _ _ st14)
            refine thnF (pg1.run _ s14 (wipe σ8 vs1) H14 x1 u1 _ I14' r14 (step1 x1 H14 y14)) fun _ s15 ⟨σ15, H15, I15, hw15, q15⟩ => ?_
            refine thnF (pt1.run _ s15 σ15 H15 _ I15 q15) fun b1 s16 ⟨H16, I16, q16⟩ => ?_
            have fin1 : ∀ {s' : Shared} {H' : Hp}, Inv (X.blk s3 H3 scope ce fp) (([] ++ pinsAt fp s7.heap) ++ pinsAt fp1 s14.heap) σ15 H' s' → Nx1 H' → ∃ m, m < k ∧ ∃ j H', Inv (X.blk s3 H3 scope ce fp) ([] ++ pinsAt fp s7.heap) (wipe σ8 vs1) H' s' ∧ tn1 j s'.heap ∧ (∀ b ∈ fp1, H' b = none) ∧ W1 j m H' := fun {s' H'} I' nx => by
              obtain ⟨m', hm, w'⟩ := hNx1 H' nx
              have pin' : ∀ b ∈ fp1, ∀ o, s14.heap.get? b = some o → s'.heap.get? b = some o ∧ H' b = none := fun b hb o e =>
                let z := I'.pin (b, o) (List.mem_append_right _ (List.mem_append_right _ (mem_pinsAt hb e)))
                ⟨z.1, z.2.1⟩
              refine ⟨m', hm, j + 1, H', I'.unpinned.weak (by rw [← hw15, wipe_length]) (fun j v e => by rw [← hw15] at e; exact (wipe_some e).1), T1.keep _ _ _ st14 fun b hb o e => (pin' b hb o e).1, fun b hb => ?_, w'⟩
              obtain ⟨o, e, _⟩ := T1.obj _ _ st14 b hb
              exact (pin' b hb o e).2
            cases b1 with
            | false =>
              simp only [Bool.false_eq_true, if_false] at q16 ⊢
              exact fin1 I16 q16
            | true =>
              simp only [if_true] at q16 ⊢
              refine thnF (pk.run _ s16 σ15 H16 _ I16 q16) fun z s17 ⟨yk, H17, I17, r17, q17⟩ => ?_
              refine thnF (pe.run _ s17 σ15 H17 _ I17 q17) fun z2 s18 ⟨yv, H18, I18, r18, kvs, k, ek, hD18, hz18, nx⟩ => ?_
              subst ek
              exact d_dictSet (X := X.blk s3 H3 scope ce fp) I18 hD18 hz18 r17 r18 fun s19 I19 => fin1 I19 nx
        exact compStart1_okD loop1 (T1.self X.A 0 _ _ _ st11 loop1)
  exact codeAny_compStart_dict loop (T.self X.A 0 _ _ _ st4 loop)

theorem pe_lc2D {kx vx tg iter tg1 iter1 : Expr} {ifs ifs1 : List Expr} {scope : Scope} {own : List (Str × Nat)} {vs1 : List Nat} {pos : Pos} {wi wi1 : TI} {g g1 : TG} {tt tt1 : TT} {tk tv : TE} (hc : X.calm = true) (hN : X.N.Nodup) (hi : PI X tg iter wi) (ok : BlkOk X.N X.env.scope scope own) (hv : ∀ i ∈ vs1, i ∈ own.map (·.2))
    (hg : ∀ (s : Shared) (H : Hp) (C : Addr) (cl : List (Str × Addr)) (fp : List Addr), PG (X.blk s H scope (compEnvC scope cl C X.env) fp) tg g) (ht : ∀ (s : Shared) (H : Hp) (C : Addr) (cl : List (Str × Addr)) (fp : List Addr), PTs (X.blk s H scope (compEnvC scope cl C X.env) fp) ifs tt)
    (hi1 : ∀ (s : Shared) (H : Hp) (C : Addr) (cl : List (Str × Addr)) (fp : List Addr), PI (X.blk s H scope (compEnvC scope cl C X.env) fp) tg1 iter1 wi1)
    (hg1 : ∀ (s : Shared) (H : Hp) (C : Addr) (cl : List (Str × Addr)) (fp : List Addr), PG (X.blk s H scope (compEnvC scope cl C X.env) fp) tg1 g1) (ht1 : ∀ (s : Shared) (H : Hp) (C : Addr) (cl : List (Str × Addr)) (fp : List Addr), PTs (X.blk s H scope (compEnvC scope cl C X.env) fp) ifs1 tt1)
    (hk : ∀ (s : Shared) (H : Hp) (C : Addr) (cl : List (Str × Addr)) (fp : List Addr), PE (X.blk s H scope (compEnvC scope cl C X.env) fp) kx tk) (he : ∀ (s : Shared) (H : Hp) (C : Addr) (cl : List (Str × Addr)) (fp : List Addr), PE (X.blk s H scope (compEnvC scope cl C X.env) fp) vx tv) (hs : ∀ x, foldedSetIterable iter X.env x = pure x := by intro _; rfl) (hs1 : ∀ env x, foldedSetIterable iter1 env x = pure x := by intro _ _; rfl) :
    PE X (.DictComp kx vx [⟨tg, iter, ifs, 0⟩, ⟨tg1, iter1, ifs1, 0⟩] scope pos) (tLc2D wi g tt wi1 g1 tt1 tk tv (own.map (·.2)) vs1) := by
  refine ⟨fun pins s σ H Q I h => ?_⟩
  rw [arm_eval_DictComp]
  refine lc2_coreD hc hN I hi ok hv hg ht hk he hs hi1 hg1 ht1 hs1 h fun D C s' m H' I' q hn f => ⟨m, hn, fun h'' sb => ?_⟩
  obtain ⟨f0, f1, f2, f3, f4, f5⟩ := f
  exact ⟨.ref D, H', I'.turned (t' := s'.toks) (fun b o hb e => (sb.2 b hb).trans e) f0 f1 f3 f4 f5, rfl, q⟩
end
end Od
end
section
set_option Elab.async false
set_option linter.all false
set_option maxRecDepth 100000
set_option maxHeartbeats 2000000
/-! name = {..}: a dict comprehension given to a local on one line -/
namespace Od
open PySem PySem.Spec PyProof.Rows L2
theorem swD_true {kx vx : Expr} {gs : List Comprehension} {scope : Scope} {pos py : Pos} {y : Str} {l : Nat} {env : Env} (hk : env.scope.kind = .function) (hy : env.scope.names.lookup y = some .local) (hl : (py.line == pos.line) = true)
    (ha : (scope.names.any fun (n, k) => n == y && (k == .local || k == .cell)) = false) : swapsWith (.DictComp kx vx gs scope pos) (some (.Name y py)) l env = pure true := by
  have ky : env.kindOf y = some .local := hy
  have hb : env.blockKind = .function := by unfold Env.blockKind; rw [hk]; rfl
  unfold swapsWith
  simp only [hb, ky, ha, Expr.pos, hl]
  rfl
section
variable {X : Cx}
theorem ps_setDc {i : Nat} {y : Str} {py : Pos} {kx vx tg iter : Expr} {ifs : List Expr} {scope : Scope} {own : List (Str × Nat)} {pos spos : Pos} {wi : TI} {g : TG} {tt : TT} {tk tv : TE} (hc : X.calm = true) (hN : X.N.Nodup) (hy : X.N[i]? = some y) (hyl : X.env.scope.names.lookup y = some .local)
    (hsw : swapsWith (.DictComp kx vx [⟨tg, iter, ifs, 0⟩] scope pos) (some (.Name y py)) spos.line X.env = pure true) (hi : PI X tg iter wi) (ok : BlkOk X.N X.env.scope scope own)
    (hg : ∀ (s : Shared) (H : Hp) (C : Addr) (cl : List (Str × Addr)) (fp : List Addr), PG (X.blk s H scope (compEnvC scope cl C X.env) fp) tg g) (ht : ∀ (s : Shared) (H : Hp) (C : Addr) (cl : List (Str × Addr)) (fp : List Addr), PTs (X.blk s H scope (compEnvC scope cl C X.env) fp) ifs tt)
    (hk : ∀ (s : Shared) (H : Hp) (C : Addr) (cl : List (Str × Addr)) (fp : List Addr), PE (X.blk s H scope (compEnvC scope cl C X.env) fp) kx tk)
    (he : ∀ (s : Shared) (H : Hp) (C : Addr) (cl : List (Str × Addr)) (fp : List Addr), PE (X.blk s H scope (compEnvC scope cl C X.env) fp) vx tv) (hs : ∀ x, foldedSetIterable iter X.env x = pure x := by intro _; rfl) :
    PS X (.Assign [.Name y py] (.DictComp kx vx [⟨tg, iter, ifs, 0⟩] scope pos) spos) (tAsg (tDc wi g tt tk tv (own.map (·.2))) (gName i)) := by
  refine ⟨fun pins s σ H D I h => ?_⟩
  rw [exec_Assign_Name_used _ _ _ _ hsw]
  refine wpAny_bind (wpAny_standAt (wpAny_bind ?_))
  show wpAny _ X.A (do let _ ← comprehension (.DictComp kx vx [⟨tg, iter, ifs, 0⟩] scope pos) scope X.env (firstIterPos [⟨tg, iter, ifs, 0⟩] pos) newDict false (eval iter X.env) (some (assign (.Name y py) X.env))) _ _ s
  have h : tDc wi g tt tk tv (own.map (·.2)) σ H (fun x H1 => gName i x σ H1 D.nx) := h
  refine wpAny_bind (thn (dc_core (Qf := fun _ s' => SP X pins D .next s') hc hN I hi ok hg ht hk he hs h fun L C s' m H' I' q hn f => ?_) fun _ s' hq => wpAny_pure (wpAny_pure hq))
  show wpAny _ _ (assign (.Name y py) X.env (.ref L)) _ _ _
  refine wpAny_assign_Name (store_ok2 (v := V.ref L) I' hN hy (.inl hyl) rfl (fun s2 I2 ⟨a, sb, ha⟩ => ?_) (.inr hyl))
  obtain ⟨f0, f1, f2, f3, f4, f5⟩ := f
  have haC : C ≠ a := by
    rcases ha with z | z
    · rw [z]; exact f1
    · exact fun e => f4 y a z e.symm
  refine ⟨m, hn.sameBut sb haC, fun h3 sb3 => ?_⟩
  exact ⟨_, H', I2.turned (t' := s2.toks) (fun b o hb e => (sb3.2 b hb).trans e) f0 f1 f3 f4 f5, q⟩
theorem ps_setDc2 {i : Nat} {y : Str} {py : Pos} {kx vx tg iter tg1 iter1 : Expr} {ifs ifs1 : List Expr} {scope : Scope} {own : List (Str × Nat)} {vs1 : List Nat} {pos spos : Pos} {wi wi1 : TI} {g g1 : TG} {tt tt1 : TT} {tk tv : TE} (hc : X.calm = true) (hN : X.N.Nodup) (hy : X.N[i]? = some y) (hyl : X.env.scope.names.lookup y = some .local)
    (hsw : swapsWith (.DictComp kx vx [⟨tg, iter, ifs, 0⟩, ⟨tg1, iter1, ifs1, 0⟩] scope pos) (some (.Name y py)) spos.line X.env = pure true) (hi : PI X tg iter wi) (ok : BlkOk X.N X.env.scope scope own) (hv : ∀ i ∈ vs1, i ∈ own.map (·.2))
    (hg : ∀ (s : Shared) (H : Hp) (C : Addr) (cl : List (Str × Addr)) (fp : List Addr), PG (X.blk s H scope (compEnvC scope cl C X.env) fp) tg g) (ht : ∀ (s : Shared) (H : Hp) (C : Addr) (cl : List (Str × Addr)) (fp : List Addr), PTs (X.blk s H scope (compEnvC scope cl C X.env) fp) ifs tt)
    (hi1 : ∀ (s : Shared) (H : Hp) (C : Addr) (cl : List (Str × Addr)) (fp : List Addr), PI (X.blk s H scope (compEnvC scope cl C X.env) fp) tg1 iter1 wi1)
    (hg1 : ∀ (s : Shared) (H : Hp) (C : Addr) (cl : List (Str × Addr)) (fp : List Addr), PG (X.blk s H scope (compEnvC scope cl C X.env) fp) tg1 g1) (ht1 : ∀ (s : Shared) (H : Hp) (C : Addr) (cl : List (Str × Addr)) (fp : List Addr), PTs (X.blk s H scope (compEnvC scope cl C X.env) fp) ifs1 tt1)
    (hk : ∀ (s : Shared) (H : Hp) (C : Addr) (cl : List (Str × Addr)) (fp : List Addr), PE (X.blk s H scope (compEnvC scope cl C X.env) fp) kx tk)
    (he : ∀ (s : Shared) (H : Hp) (C : Addr) (cl : List (Str × Addr)) (fp : List Addr), PE (X.blk s H scope (compEnvC scope cl C X.env) fp) vx tv) (hs : ∀ x, foldedSetIterable iter X.env x = pure x := by intro _; rfl) (hs1 : ∀ env x, foldedSetIterable iter1 env x = pure x := by intro _ _; rfl) :
    PS X (.Assign [.Name y py] (.DictComp kx vx [⟨tg, iter, ifs, 0⟩, ⟨tg1, iter1, ifs1, 0⟩] scope pos) spos) (tAsg (tLc2D wi g tt wi1 g1 tt1 tk tv (own.map (·.2)) vs1) (gName i)) := by
  refine ⟨fun pins s σ H D I h => ?_⟩
  rw [exec_Assign_Name_used _ _ _ _ hsw]
  refine wpAny_bind (wpAny_standAt (wpAny_bind ?_))
  show wpAny _ X.A (do let _ ← comprehension (.DictComp kx vx [⟨tg, iter, ifs, 0⟩, ⟨tg1, iter1, ifs1, 0⟩] scope pos) scope X.env (firstIterPos [⟨tg, iter, ifs, 0⟩, ⟨tg1, iter1, ifs1, 0⟩] pos) newDict false (eval iter X.env) (some (assign (.Name y py) X.env))) _ _ s
  have h : tLc2D wi g tt wi1 g1 tt1 tk tv (own.map (·.2)) vs1 σ H (fun x H1 => gName i x σ H1 D.nx) := h
  refine wpAny_bind (thn (lc2_coreD (Qf := fun _ s' => SP X pins D .next s') hc hN I hi ok hv hg ht hk he hs hi1 hg1 ht1 hs1 h fun L C s' m H' I' q hn f => ?_) fun _ s' hq => wpAny_pure (wpAny_pure hq))
  show wpAny _ _ (assign (.Name y py) X.env (.ref L)) _ _ _
  refine wpAny_assign_Name (store_ok2 (v := V.ref L) I' hN hy (.inl hyl) rfl (fun s2 I2 ⟨a, sb, ha⟩ => ?_) (.inr hyl))
  obtain ⟨f0, f1, f2, f3, f4, f5⟩ := f
  have haC : C ≠ a := by
    rcases ha with z | z
    · rw [z]; exact f1
    · exact fun e => f4 y a z e.symm
  refine ⟨m, hn.sameBut sb haC, fun h3 sb3 => ?_⟩
  exact ⟨_, H', I2.turned (t' := s2.toks) (fun b o hb e => (sb3.2 b hb).trans e) f0 f1 f3 f4 f5, q⟩
end
end Od
end
section
set_option Elab.async false
set_option linter.all false
set_option maxRecDepth 100000
set_option maxHeartbeats 2000000
set_option autoImplicit false
/-! comprehensions of two clauses, tables of ints -/
namespace Od
open PySem PySem.Spec PyProof.Rows L2
/-! ### counting -/
theorem nodup_le : ∀ (n : Nat) (l : List Nat), l.Nodup → (∀ x ∈ l, x < n) → l.length ≤ n
  | 0, [], _, _ => Nat.le_refl _
  | 0, x :: l, _, h => absurd (h x List.mem_cons_self) (Nat.not_lt_zero _)
  | n + 1, l, nd, h => by
    have h1 : (l.filter fun x => decide (x ≠ n)).length ≤ n := nodup_le n _ (nd.sublist List.filter_sublist) fun x hx => by
      have := List.mem_filter.mp hx
      have h2 := h x this.1
      have h3 : x ≠ n := of_decide_eq_true this.2
      omega
    have h2 : ∀ l : List Nat, l.Nodup → l.length ≤ (l.filter fun x => decide (x ≠ n)).length + 1 := by
      intro l
      induction l with
      | nil => intro _; exact Nat.zero_le _
      | cons a l ih =>
        intro nd
        have nd' := List.nodup_cons.mp nd
        by_cases c : a = n
        · have e : (l.filter fun x => decide (x ≠ n)) = l := List.filter_eq_self.mpr fun x hx => decide_eq_true fun e => nd'.1 (by rw [c, ← e]; exact hx)
          rw [List.filter_cons, if_neg (by simp [c]), e, List.length_cons]
          exact Nat.le_refl _
        · rw [List.filter_cons, if_pos (by simp [c]), List.length_cons, List.length_cons]
          have := ih nd'.2
          omega
    have := h2 l nd
    omega
theorem nodup_int {l : List Int} {lo : Int} {n : Nat} (nd : l.Nodup) (h : ∀ x ∈ l, lo ≤ x ∧ x < lo + n) : l.length ≤ n := by
  have := nodup_le n (l.map fun x => (x - lo).toNat) ?_ ?_
  · rwa [List.length_map] at this
  · rw [List.nodup_iff_pairwise_ne, List.pairwise_map]
    refine (List.nodup_iff_pairwise_ne.mp nd).imp_of_mem fun {a b} ha hb hab e => hab ?_
    have := h a ha
    have := h b hb
    omega
  · intro x hx
    obtain ⟨y, hy, rfl⟩ := List.mem_map.mp hx
    have := h y hy
    omega
/-! ### tables of ints -/
/-- the dict kvs has int keys; T tells what stands at a key -/
structure Tab (kvs : List (Key × V)) (T : Int → Option V) : Prop where
  val : ∀ k, valV kvs (.inl k) = T k
  ent : ∀ e ∈ kvs, ∃ k, e.1 = .inl k ∧ T k = some e.2
  nd : (kvs.map (·.1)).Nodup
theorem Tab.nil : Tab [] fun _ => none := ⟨fun _ => rfl, fun _ h => (by cases h), List.nodup_nil⟩
theorem Tab.mem {kvs : List (Key × V)} {T : Int → Option V} (t : Tab kvs T) {k : Int} {v : V} (h : T k = some v) : (Sum.inl k, v) ∈ kvs := by
  rw [← t.val] at h
  unfold valV at h
  obtain ⟨e, he, rfl⟩ := Option.map_eq_some_iff.mp h
  have h1 := List.mem_of_find?_eq_some he
  have h2 : e.1 = Sum.inl k := by simpa using List.find?_some he
  obtain ⟨a, b⟩ := e
  simp only at h2
  subst h2
  exact h1
theorem keys_put (kvs : List (Key × V)) (k : Key) (v : V) : (putK kvs k v).map (·.1) = if (valV kvs k).isSome then kvs.map (·.1) else kvs.map (·.1) ++ [k] := by
  unfold putK
  rw [valV_any]
  by_cases c : (valV kvs k).isSome = true
  · rw [if_pos c, if_pos c, List.map_map]
    apply List.map_congr_left
    intro e _
    show (if e.1 = k then (e.1, v) else e).1 = e.1
    split <;> rfl
  · rw [if_neg c, if_neg c, List.map_append]
    rfl
theorem Tab.put {kvs : List (Key × V)} {T : Int → Option V} (t : Tab kvs T) (k : Int) (v : V) : Tab (putK kvs (.inl k) v) fun j => if j = k then some v else T j := by
  refine ⟨fun j => ?_, fun e he => ?_, ?_⟩
  · rw [valV_put, t.val]
    by_cases c : j = k
    · rw [if_pos c, if_pos (by rw [c])]
    · rw [if_neg c, if_neg (fun e => c (Sum.inl.inj e))]
  · unfold putK at he
    split at he
    · obtain ⟨a, ha, rfl⟩ := List.mem_map.mp he
      obtain ⟨j, hj, hT⟩ := t.ent a ha
      by_cases c : a.1 = .inl k
      · rw [if_pos c]
        exact ⟨k, c, by rw [if_pos rfl]⟩
      · rw [if_neg c]
        exact ⟨j, hj, by rw [if_neg (fun e => c (by rw [hj, e]))]; exact hT⟩
    · rename_i hn
      rcases List.mem_append.mp he with ha | ha
      · obtain ⟨j, hj, hT⟩ := t.ent e ha
        refine ⟨j, hj, ?_⟩
        rw [if_neg]
        · exact hT
        · intro c
          apply hn
          rw [List.any_eq_true]
          exact ⟨e, ha, decide_eq_true (by rw [hj, c])⟩
      · rw [List.mem_singleton.mp ha]
        exact ⟨k, rfl, by rw [if_pos rfl]⟩
  · rw [keys_put]
    split
    · exact t.nd
    · rename_i hs
      rw [List.nodup_append]
      refine ⟨t.nd, by simp, fun a ha b hb => ?_⟩
      rw [List.mem_singleton.mp hb]
      intro c
      apply hs
      rw [← valV_any, List.any_eq_true]
      obtain ⟨e, he, rfl⟩ := List.mem_map.mp ha
      exact ⟨e, he, decide_eq_true c⟩
def keyI : Key → Int
  | .inl k => k
  | .inr _ => 0
theorem Tab.len {kvs : List (Key × V)} {T : Int → Option V} (t : Tab kvs T) {lo : Int} {n : Nat} (h : ∀ k v, T k = some v → lo ≤ k ∧ k < lo + n) : kvs.length ≤ n := by
  have e : kvs.map (·.1) = (kvs.map fun e => keyI e.1).map Sum.inl := by
    rw [List.map_map]
    apply List.map_congr_left
    intro e he
    obtain ⟨k, hk, _⟩ := t.ent e he
    show e.1 = Sum.inl (keyI e.1)
    rw [hk]
    rfl
  have nd := t.nd
  rw [e] at nd
  have nd2 : (kvs.map fun e => keyI e.1).Nodup := by
    rw [List.nodup_iff_pairwise_ne, List.pairwise_map] at nd
    rw [List.nodup_iff_pairwise_ne]
    exact nd.imp fun {a b} h c => h (by rw [c])
  have := nodup_int (lo := lo) (n := n) nd2 fun x hx => by
    obtain ⟨a, ha, rfl⟩ := List.mem_map.mp hx
    obtain ⟨k, hk, hT⟩ := t.ent a ha
    rw [hk]
    exact h k _ hT
  rwa [List.length_map] at this
/-! ### two clauses, plain values, no tests -/
/-- what the turns of a walk give, told by a list -/
def Gives (Y : Nat → Hp → V → Hp → Prop) (xs : List V) : Prop := ∀ i H x H', Y i H x H' → H' = H ∧ xs[i]? = some x
theorem gives_at {xs : List V} : Gives (YAt xs) xs := fun _ _ _ _ h => h
theorem gives_vals {kvs : List (Key × V)} : Gives (fun i H x H' => H' = H ∧ ∃ k, kvs[i]? = some (k, x)) (kvs.map (·.2)) := fun i H x H' h => ⟨h.1, by
  obtain ⟨k, e⟩ := h.2
  rw [List.getElem?_map, e]
  rfl⟩
theorem flat_take {α β : Type} (f : α → List β) (xs : List α) (i : Nat) (x : α) (h : xs[i]? = some x) : (xs.take (i + 1)).flatMap f = (xs.take i).flatMap f ++ f x := by
  rw [List.take_add_one, h, List.flatMap_append]
  simp
theorem flat_len {α β : Type} (f : α → List β) (n : Nat) (h : ∀ x, (f x).length ≤ n) : ∀ xs : List α, (xs.flatMap f).length ≤ xs.length * n
  | [] => by simp
  | x :: xs => by
    rw [List.flatMap_cons, List.length_append, List.length_cons, Nat.succ_mul]
    have := flat_len f n h xs
    have := h x
    omega
section
variable {J J1 : It} {G G1 : Hp → Prop} {Y Y1 : Nat → Hp → V → Hp → Prop} {XS YS : List V} {wi1 : TI} {i0 i1 : Nat} {te tk tv : TE} {vs vs1 : List Nat} {σ : L2.St} {H1 : Hp} {D : Addr} {Qd : Hp → Prop}
theorem lc2_pure (w : Walk J XS.length G Y) (hY : Gives Y XS) (w1 : Walk J1 YS.length G1 Y1) (hY1 : Gives Y1 YS) (hD : H1 D = none) (hG : ∀ H, Le H1 H → G H) (hG1 : ∀ H, Le H1 H → G1 H) (hn : XS.length * YS.length ≤ sizeLine) (el : V → V → V)
    (hw : ∀ x, wipe ((wipe σ vs).set i0 (some x)) vs = wipe σ vs) (hw1 : ∀ x y, wipe ((wipe ((wipe σ vs).set i0 (some x)) vs1).set i1 (some y)) vs1 = wipe ((wipe σ vs).set i0 (some x)) vs1)
    (hi : ∀ x H, x ∈ XS → Le H1 H → ∀ R : It → Hp → Prop, R J1 H → wi1 ((wipe σ vs).set i0 (some x)) H R)
    (he : ∀ x y H, x ∈ XS → y ∈ YS → Le H1 H → ∀ N : VK, N (el x y) H → te ((wipe ((wipe σ vs).set i0 (some x)) vs1).set i1 (some y)) H N)
    (hd : ∀ H, Le H1 H → H D = some (.lst (XS.flatMap fun x => YS.map fun y => el x y)) → Qd H) :
    ∃ W : Nat → Nat → Hp → Prop, (∃ m, W 0 m (upd H1 D (.lst []))) ∧ ∀ i m H, W i m H →
  (J.stop i H ∧ Qd H) ∨ (J.go i H ∧ ∃ Nx : Hp → Prop, (∀ H', Nx H' → ∃ m', m' < m ∧ W (i + 1) m' H') ∧ ∀ x H', J.yld i H x H' → gName i0 x (wipe σ vs) H' fun σ2 H2 => wipe σ2 vs = wipe σ vs ∧ tYes σ2 H2 fun b H3 =>
    if b = true then wi1 σ2 H3 fun J1 H4 => ∃ W1 : Nat → Nat → Hp → Prop, (∃ m, W1 0 m H4) ∧ ∀ j k H, W1 j k H →
      (J1.stop j H ∧ Nx H) ∨ (J1.go j H ∧ ∃ Nx1 : Hp → Prop, (∀ H', Nx1 H' → ∃ k', k' < k ∧ W1 (j + 1) k' H') ∧ ∀ x H', J1.yld j H x H' → gName i1 x (wipe σ2 vs1) H' fun σ3 H5 => wipe σ3 vs1 = wipe σ2 vs1 ∧ tYes σ3 H5 fun b H6 =>
        if b = true then te σ3 H6 fun y H7 => ∃ acc, H7 D = some (.lst acc) ∧ acc.length < sizeLine ∧ Nx1 (upd H7 D (.lst (acc ++ [y]))) else Nx1 H6)
    else Nx H3) := by
  have lenT : ∀ i, ((XS.take i).flatMap fun x => YS.map fun y => el x y).length ≤ i * YS.length := fun i => by
    have := flat_len (fun x => YS.map fun y => el x y) YS.length (fun x => by rw [List.length_map]; exact Nat.le_refl _) (XS.take i)
    have h2 : (XS.take i).length ≤ i := by rw [List.length_take]; omega
    exact Nat.le_trans this (Nat.mul_le_mul_right _ h2)
  refine ⟨fun i m H => m = XS.length - i ∧ i ≤ XS.length ∧ Le H1 H ∧ H D = some (.lst ((XS.take i).flatMap fun x => YS.map fun y => el x y)), ⟨_, rfl, Nat.zero_le _, Le.new hD, by rw [upd_self]; simp⟩, ?_⟩
  rintro i m H ⟨rfl, hiX, le, e⟩
  by_cases hlt : i < XS.length
  · refine .inr ⟨w.goes i H hlt (hG H le), fun H' => Le H1 H' ∧ H' D = some (.lst ((XS.take (i + 1)).flatMap fun x => YS.map fun y => el x y)), fun H' p => ⟨XS.length - (i + 1), by omega, rfl, hlt, p⟩, fun x H' y => ?_⟩
    obtain ⟨rfl, hx⟩ := hY i H x H' (w.yields i H x H' hlt (hG H le) y)
    have hxm := List.mem_of_getElem? hx
    refine ⟨hw x, ?_⟩
    show wi1 ((wipe σ vs).set i0 (some x)) H' _
    refine hi x H' hxm le _ ?_
    refine ⟨fun j k H => k = YS.length - j ∧ j ≤ YS.length ∧ Le H1 H ∧ H D = some (.lst (((XS.take i).flatMap fun x => YS.map fun y => el x y) ++ (YS.take j).map fun y => el x y)), ⟨_, rfl, Nat.zero_le _, le, by rw [e]; simp⟩, ?_⟩
    rintro j k H2 ⟨rfl, hjY, le2, e2⟩
    by_cases hlt2 : j < YS.length
    · refine .inr ⟨w1.goes j H2 hlt2 (hG1 H2 le2), fun H' => Le H1 H' ∧ H' D = some (.lst (((XS.take i).flatMap fun x => YS.map fun y => el x y) ++ (YS.take (j + 1)).map fun y => el x y)), fun H' p => ⟨YS.length - (j + 1), by omega, rfl, hlt2, p⟩, fun z H3 y3 => ?_⟩
      obtain ⟨rfl, hz⟩ := hY1 j H2 z H3 (w1.yields j H2 z H3 hlt2 (hG1 H2 le2) y3)
      refine ⟨hw1 x z, ?_⟩
      show te _ H3 _
      refine he x z H3 hxm (List.mem_of_getElem? hz) le2 _ ?_
      refine ⟨_, e2, ?_, le2.upd hD, ?_⟩
      · rw [List.length_append, List.length_map, List.length_take]
        have h1 := lenT i
        have h2 : i * YS.length + YS.length ≤ XS.length * YS.length := by
          rw [← Nat.succ_mul]
          exact Nat.mul_le_mul_right _ hlt
        omega
      · rw [upd_self, List.append_assoc, List.take_add_one, hz, List.map_append]
        rfl
    · have ej : j = YS.length := by omega
      subst ej
      refine .inl ⟨w1.stops H2 (hG1 H2 le2), le2, ?_⟩
      rw [e2, List.take_of_length_le (Nat.le_refl _), flat_take _ _ _ _ hx]
  · have ei : i = XS.length := by omega
    subst ei
    refine .inl ⟨w.stops H (hG H le), hd H le ?_⟩
    rw [e, List.take_of_length_le (Nat.le_refl _)]
/-- .. a dict: the keys' table -/
theorem dc2_pure (w : Walk J XS.length G Y) (hY : Gives Y XS) (w1 : Walk J1 YS.length G1 Y1) (hY1 : Gives Y1 YS) (hD : H1 D = none) (hG : ∀ H, Le H1 H → G H) (hG1 : ∀ H, Le H1 H → G1 H) (el : V → V → Int) (u : V) (lo : Int) (n : Nat) (hn : n < sizeLine) (hb : ∀ x ∈ XS, ∀ y ∈ YS, lo ≤ el x y ∧ el x y < lo + n)
    (hw : ∀ x, wipe ((wipe σ vs).set i0 (some x)) vs = wipe σ vs) (hw1 : ∀ x y, wipe ((wipe ((wipe σ vs).set i0 (some x)) vs1).set i1 (some y)) vs1 = wipe ((wipe σ vs).set i0 (some x)) vs1)
    (hi : ∀ x H, x ∈ XS → Le H1 H → ∀ R : It → Hp → Prop, R J1 H → wi1 ((wipe σ vs).set i0 (some x)) H R)
    (he : ∀ x y H, x ∈ XS → y ∈ YS → Le H1 H → ∀ N : VK, N (.int (el x y)) H → tk ((wipe ((wipe σ vs).set i0 (some x)) vs1).set i1 (some y)) H N)
    (hv : ∀ x y H, x ∈ XS → y ∈ YS → Le H1 H → ∀ N : VK, N u H → tv ((wipe ((wipe σ vs).set i0 (some x)) vs1).set i1 (some y)) H N)
    (hd : ∀ H kvs T, Le H1 H → H D = some (.dK kvs) → Tab kvs T → (∀ k v, T k = some v ↔ v = u ∧ ∃ x ∈ XS, ∃ y ∈ YS, k = el x y) → Qd H) :
    ∃ W : Nat → Nat → Hp → Prop, (∃ m, W 0 m (upd H1 D (.dK []))) ∧ ∀ i m H, W i m H →
  (J.stop i H ∧ Qd H) ∨ (J.go i H ∧ ∃ Nx : Hp → Prop, (∀ H', Nx H' → ∃ m', m' < m ∧ W (i + 1) m' H') ∧ ∀ x H', J.yld i H x H' → gName i0 x (wipe σ vs) H' fun σ2 H2 => wipe σ2 vs = wipe σ vs ∧ tYes σ2 H2 fun b H3 =>
    if b = true then wi1 σ2 H3 fun J1 H4 => ∃ W1 : Nat → Nat → Hp → Prop, (∃ m, W1 0 m H4) ∧ ∀ j k H, W1 j k H →
      (J1.stop j H ∧ Nx H) ∨ (J1.go j H ∧ ∃ Nx1 : Hp → Prop, (∀ H', Nx1 H' → ∃ k', k' < k ∧ W1 (j + 1) k' H') ∧ ∀ x H', J1.yld j H x H' → gName i1 x (wipe σ2 vs1) H' fun σ3 H5 => wipe σ3 vs1 = wipe σ2 vs1 ∧ tYes σ3 H5 fun b H6 =>
        if b = true then tk σ3 H6 fun y H7 => tv σ3 H7 fun z H8 => ∃ kvs k, y = kV k ∧ H8 D = some (.dK kvs) ∧ kvs.length < sizeLine ∧ Nx1 (upd H8 D (.dK (putK kvs k z))) else Nx1 H6)
    else Nx H3) := by
  refine ⟨fun i m H => m = XS.length - i ∧ i ≤ XS.length ∧ Le H1 H ∧ ∃ kvs T, H D = some (.dK kvs) ∧ Tab kvs T ∧ ∀ k v, T k = some v ↔ v = u ∧ ∃ x ∈ XS.take i, ∃ y ∈ YS, k = el x y, ⟨_, rfl, Nat.zero_le _, Le.new hD, [], _, upd_self, .nil, fun k v => ⟨fun h => (by cases h), fun ⟨_, x, hx, _⟩ => (by simp at hx)⟩⟩, ?_⟩
  rintro i m H ⟨rfl, hiX, le, kvs, T, e, tb, ht⟩
  by_cases hlt : i < XS.length
  · refine .inr ⟨w.goes i H hlt (hG H le), fun H' => Le H1 H' ∧ ∃ kvs T, H' D = some (.dK kvs) ∧ Tab kvs T ∧ ∀ k v, T k = some v ↔ v = u ∧ ∃ x ∈ XS.take (i + 1), ∃ y ∈ YS, k = el x y, fun H' p => ⟨XS.length - (i + 1), by omega, rfl, hlt, p⟩, fun x H' y => ?_⟩
    obtain ⟨rfl, hx⟩ := hY i H x H' (w.yields i H x H' hlt (hG H le) y)
    have hxm := List.mem_of_getElem? hx
    have htk : ∀ z, z ∈ XS.take (i + 1) ↔ z ∈ XS.take i ∨ z = x := fun z => by
      rw [List.take_add_one, hx, List.mem_append]
      simp
    refine ⟨hw x, ?_⟩
    show wi1 ((wipe σ vs).set i0 (some x)) H' _
    refine hi x H' hxm le _ ?_
    refine ⟨fun j k H => k = YS.length - j ∧ j ≤ YS.length ∧ Le H1 H ∧ ∃ kvs T, H D = some (.dK kvs) ∧ Tab kvs T ∧ ∀ k v, T k = some v ↔ v = u ∧ ((∃ x ∈ XS.take i, ∃ y ∈ YS, k = el x y) ∨ ∃ y ∈ YS.take j, k = el x y), ⟨_, rfl, Nat.zero_le _, le, kvs, T, e, tb, fun k v => by rw [ht]; simp⟩, ?_⟩
    rintro j k H2 ⟨rfl, hjY, le2, kvs2, T2, e2, tb2, ht2⟩
    by_cases hlt2 : j < YS.length
    · refine .inr ⟨w1.goes j H2 hlt2 (hG1 H2 le2), fun H' => Le H1 H' ∧ ∃ kvs T, H' D = some (.dK kvs) ∧ Tab kvs T ∧ ∀ k v, T k = some v ↔ v = u ∧ ((∃ x ∈ XS.take i, ∃ y ∈ YS, k = el x y) ∨ ∃ y ∈ YS.take (j + 1), k = el x y), fun H' p => ⟨YS.length - (j + 1), by omega, rfl, hlt2, p⟩, fun z H3 y3 => ?_⟩
      obtain ⟨rfl, hz⟩ := hY1 j H2 z H3 (w1.yields j H2 z H3 hlt2 (hG1 H2 le2) y3)
      have hzm := List.mem_of_getElem? hz
      refine ⟨hw1 x z, ?_⟩
      show tk _ H3 _
      refine he x z H3 hxm hzm le2 _ ?_
      refine hv x z H3 hxm hzm le2 _ ?_
      refine ⟨kvs2, .inl (el x z), rfl, e2, ?_, le2.upd hD, _, _, upd_self, tb2.put _ _, fun k v => ?_⟩
      · refine Nat.lt_of_le_of_lt (tb2.len (lo := lo) (n := n) fun k v hk => ?_) hn
        rcases ((ht2 k v).mp hk).2 with ⟨a, ha, b, hb2, rfl⟩ | ⟨b, hb2, rfl⟩
        · exact hb a (List.mem_of_mem_take ha) b hb2
        · exact hb x hxm b (List.mem_of_mem_take hb2)
      · have h3 : ∀ q, q ∈ YS.take (j + 1) ↔ q ∈ YS.take j ∨ q = z := fun q => by
          rw [List.take_add_one, hz, List.mem_append]
          simp
        by_cases c : k = el x z
        · rw [if_pos c]
          constructor
          · intro h
            exact ⟨(Option.some.inj h).symm, .inr ⟨z, (h3 z).mpr (.inr rfl), c⟩⟩
          · intro h
            rw [h.1]
        · rw [if_neg c, ht2]
          constructor
          · rintro ⟨h1, h2 | ⟨q, hq, h2⟩⟩
            · exact ⟨h1, .inl h2⟩
            · exact ⟨h1, .inr ⟨q, (h3 q).mpr (.inl hq), h2⟩⟩
          · rintro ⟨h1, h2 | ⟨q, hq, h2⟩⟩
            · exact ⟨h1, .inl h2⟩
            · rcases (h3 q).mp hq with h | rfl
              · exact ⟨h1, .inr ⟨q, h, h2⟩⟩
              · exact absurd h2 c
    · have ej : j = YS.length := by omega
      subst ej
      refine .inl ⟨w1.stops H2 (hG1 H2 le2), le2, kvs2, T2, e2, tb2, fun k v => ?_⟩
      rw [ht2, List.take_of_length_le (Nat.le_refl _)]
      constructor
      · rintro ⟨h1, ⟨a, ha, b, hb2, h⟩ | ⟨b, hb2, h⟩⟩
        · exact ⟨h1, a, (htk a).mpr (.inl ha), b, hb2, h⟩
        · exact ⟨h1, x, (htk x).mpr (.inr rfl), b, hb2, h⟩
      · rintro ⟨h1, a, ha, b, hb2, h⟩
        rcases (htk a).mp ha with ha | rfl
        · exact ⟨h1, .inl ⟨a, ha, b, hb2, h⟩⟩
        · exact ⟨h1, .inr ⟨b, hb2, h⟩⟩
  · have ei : i = XS.length := by omega
    subst ei
    refine .inl ⟨w.stops H (hG H le), hd H kvs T le e tb fun k v => ?_⟩
    rw [ht, List.take_of_length_le (Nat.le_refl _)]
/-- one clause, a dict: the keys' table -/
theorem dc_pure (w : Walk J XS.length G Y) (hY : Gives Y XS) (hD : H1 D = none) (hG : ∀ H, Le H1 H → G H) (kf : V → Int) (vf : V → V) (lo : Int) (n : Nat) (hn : n < sizeLine) (hb : ∀ x ∈ XS, lo ≤ kf x ∧ kf x < lo + n)
    (hw : ∀ x, wipe ((wipe σ vs).set i0 (some x)) vs = wipe σ vs)
    (he : ∀ x H, x ∈ XS → Le H1 H → ∀ N : VK, N (.int (kf x)) H → tk ((wipe σ vs).set i0 (some x)) H N)
    (hv : ∀ x H, x ∈ XS → Le H1 H → ∀ N : VK, N (vf x) H → tv ((wipe σ vs).set i0 (some x)) H N)
    (hd : ∀ H kvs T, Le H1 H → H D = some (.dK kvs) → Tab kvs T → (∀ k v, T k = some v → ∃ x ∈ XS, k = kf x ∧ v = vf x) → (∀ x ∈ XS, (T (kf x)).isSome = true) → Qd H) :
    ∃ W : Nat → Nat → Hp → Prop, (∃ m, W 0 m (upd H1 D (.dK []))) ∧ ∀ i m H, W i m H →
  (J.stop i H ∧ Qd H) ∨ (J.go i H ∧ ∃ Nx : Hp → Prop, (∀ H', Nx H' → ∃ m', m' < m ∧ W (i + 1) m' H') ∧ ∀ x H', J.yld i H x H' → gName i0 x (wipe σ vs) H' fun σ2 H2 => wipe σ2 vs = wipe σ vs ∧ tYes σ2 H2 fun b H3 =>
    if b = true then tk σ2 H3 fun y H4 => tv σ2 H4 fun z H5 => ∃ kvs k, y = kV k ∧ H5 D = some (.dK kvs) ∧ kvs.length < sizeLine ∧ Nx (upd H5 D (.dK (putK kvs k z))) else Nx H3) := by
  refine ⟨fun i m H => m = XS.length - i ∧ i ≤ XS.length ∧ Le H1 H ∧ ∃ kvs T, H D = some (.dK kvs) ∧ Tab kvs T ∧ (∀ k v, T k = some v → ∃ x ∈ XS.take i, k = kf x ∧ v = vf x) ∧ (∀ x ∈ XS.take i, (T (kf x)).isSome = true), ⟨_, rfl, Nat.zero_le _, Le.new hD, [], _, upd_self, .nil, fun k v h => (by cases h), fun x hx => (by simp at hx)⟩, ?_⟩
  rintro i m H ⟨rfl, hiX, le, kvs, T, e, tb, h1, h2⟩
  by_cases hlt : i < XS.length
  · refine .inr ⟨w.goes i H hlt (hG H le), fun H' => Le H1 H' ∧ ∃ kvs T, H' D = some (.dK kvs) ∧ Tab kvs T ∧ (∀ k v, T k = some v → ∃ x ∈ XS.take (i + 1), k = kf x ∧ v = vf x) ∧ (∀ x ∈ XS.take (i + 1), (T (kf x)).isSome = true), fun H' p => ⟨XS.length - (i + 1), by omega, rfl, hlt, p⟩, fun x H' y => ?_⟩
    obtain ⟨rfl, hx⟩ := hY i H x H' (w.yields i H x H' hlt (hG H le) y)
    have hxm := List.mem_of_getElem? hx
    have htk : ∀ z, z ∈ XS.take (i + 1) ↔ z ∈ XS.take i ∨ z = x := fun z => by
      rw [List.take_add_one, hx, List.mem_append]
      simp
    refine ⟨hw x, ?_⟩
    show tk ((wipe σ vs).set i0 (some x)) H' _
    refine he x H' hxm le _ ?_
    refine hv x H' hxm le _ ?_
    refine ⟨kvs, .inl (kf x), rfl, e, ?_, le.upd hD, _, _, upd_self, tb.put _ _, fun k v hk => ?_, fun z hz => ?_⟩
    · refine Nat.lt_of_le_of_lt (tb.len (lo := lo) (n := n) fun k v hk => ?_) hn
      obtain ⟨a, ha, rfl, _⟩ := h1 k v hk
      exact hb a (List.mem_of_mem_take ha)
    · by_cases c : k = kf x
      · rw [if_pos c] at hk
        exact ⟨x, (htk x).mpr (.inr rfl), c, (Option.some.inj hk).symm⟩
      · rw [if_neg c] at hk
        obtain ⟨a, ha, h3⟩ := h1 k v hk
        exact ⟨a, (htk a).mpr (.inl ha), h3⟩
    · by_cases c : kf z = kf x
      · rw [if_pos c]; rfl
      · rw [if_neg c]
        rcases (htk z).mp hz with h | rfl
        · exact h2 z h
        · exact absurd rfl c
  · have ei : i = XS.length := by omega
    subst ei
    rw [List.take_of_length_le (Nat.le_refl _)] at h1 h2
    exact .inl ⟨w.stops H (hG H le), hd H kvs T le e tb h1 h2⟩
end
end Od
end
section
set_option Elab.async false
set_option linter.all false
set_option maxRecDepth 100000
set_option maxHeartbeats 2000000
set_option autoImplicit false
/-! rules said over a written part of one's own; sorted of any number of texts -/
namespace Od
open PySem PySem.Spec PyProof.Rows L2
section
variable {X : Cx} {K : PySem.W.Frag}
theorem opR_K {f : Value → Value → Sem Value} {r : PySem.W.Frag → R2} (hK : X.K = K) (h : OpR X f (r X.K)) : OpR X f (r K) := by subst hK; exact h
theorem callR_K {v : Value} {r : PySem.W.Frag → List V → Hp → VK → Prop} (hK : X.K = K) (h : CallR X v (r X.K)) : CallR X v (r K) := by subst hK; exact h
theorem ixR_K {r : PySem.W.Frag → R2} (hK : X.K = K) (h : IxR X (r X.K)) : IxR X (r K) := by subst hK; exact h
theorem slR_K {r : PySem.W.Frag → V → Option Int → Option Int → Hp → VK → Prop} (hK : X.K = K) (h : SlR X (r X.K)) : SlR X (r K) := by subst hK; exact h
theorem pa_starK {e : Expr} {p : Pos} {es : List Expr} {te : TE} {t : TA} (hK : X.K = K) (he : PE X e te) (hr : PA X es t) (hs : starEach (.Starred e p :: es) X.env = (true, eval e X.env) :: starEach es X.env := by rfl) : PA X (.Starred e p :: es) (StX.tStar K te t) := by
  subst hK
  exact StX.pa_star he hr hs
def rLenK (K : PySem.W.Frag) : List V → Hp → VK → Prop := fun xs H Q => ∃ p ys, xs = [.ref p] ∧ (SqL K H p ys ∨ SqT K H p ys) ∧ Q (.int ys.length) H
theorem call_lenK (hK : X.K = K) : CallR X (.builtin "len") (rLenK K) := by subst hK; exact call_len_seq
def rListK (K : PySem.W.Frag) : List V → Hp → VK → Prop := fun xs H Q => ∃ p ys, xs = [.ref p] ∧ (SqL K H p ys ∨ SqT K H p ys) ∧ ∀ l, H l = none → Q (.ref l) (upd H l (.lst ys))
theorem call_listK (hK : X.K = K) : CallR X (.type "list") (rListK K) := by subst hK; exact call_list_of
/-- sorted(xs), texts, any number of them -/
def rSortedSA (K : PySem.W.Frag) : List V → Hp → VK → Prop := fun vs H Q => ∃ (a : Addr) (xs : List Str), vs = [V.ref a] ∧ SqL K H a (xs.map V.str) ∧
  ∀ (ys : List Str) (p : Addr), ys.Perm xs → sortedS ys = true → H p = none → Q (.ref p) (upd H p (.lst (ys.map V.str)))
theorem cr_sortedSA : CallR X (.builtin "sorted") (rSortedSA X.K) := by
  intro pins s σ H vs us Q I r h
  obtain ⟨a, xs, rfl, hs, q⟩ := h
  obtain ⟨its, rv, hl, hz⟩ := I.list hs
  rw [Vals.ref1 r]
  have hlen0 := rv.length
  rw [List.length_map] at hlen0 hz
  refine PyProof.Rows.sorted_strsAny hl.isList rv.strs (by rw [← hlen0]; exact hz) fun out ys h1 h2 h3 => ?_
  obtain ⟨ep, he'⟩ := PyProof.Rows.sortedAll_at s.heap its out
  have hlen : (ys.map V.str).length ≤ sizeLine := by rw [List.length_map, h2.length_eq]; exact hz
  exact ⟨.ref _, upd H (s.heap.objs.size + 1) (.lst (ys.map V.str)), I.laid (t' := s.toks) (fun _ _ => PyProof.Rows.sortedAll_old) (Nat.le_succ _) ⟨hlen, out.toList, ep, vals_of_strs h1, he'⟩, rfl, q ys _ h2 h3 (I.hok.fresh (Nat.le_succ _))⟩
end
theorem fm_bind {α β : Type} (xs : List α) (f : α → Option β) : (List.range xs.length).filterMap (fun i => (xs[i]?).bind f) = xs.filterMap f := by
  induction xs with
  | nil => rfl
  | cons x xs ih =>
    rw [List.length_cons, List.range_succ_eq_map, List.filterMap_cons]
    have e : (List.map Nat.succ (List.range xs.length)).filterMap (fun i => ((x :: xs)[i]?).bind f) = xs.filterMap f := by
      rw [List.filterMap_map, ← ih]
      rfl
    rw [e, List.filterMap_cons]
    rfl
/-- a comprehension over a walk that gives the items of XS: f x is kept (none: not) -/
theorem lc_fm {J : It} {G : Hp → Prop} {Y : Nat → Hp → V → Hp → Prop} {XS : List V} {n : Nat} (w : Walk J n G Y) (hY : Gives Y XS) {g : TG} {tt : TT} {te : TE} {vs : List Nat} {σ : L2.St} {H1 : Hp} {D : Addr} {Qd : Hp → Prop} (hD : H1 D = none) (hn : XS.length ≤ 16777216)
    (hG : ∀ H, Le H1 H → G H) (f : V → Option V)
    (hs : ∀ x H, x ∈ XS → Le H1 H → ∀ N : Option V → Hp → Prop, (∀ H2, Le H H2 → N (f x) H2) → g x (wipe σ vs) H fun σ2 H2 => wipe σ2 vs = wipe σ vs ∧ tt σ2 H2 fun b H3 => if b = true then te σ2 H3 fun y H4 => N (some y) H4 else N none H3)
    (hd : ∀ H, Le H1 H → H D = some (.lst (XS.filterMap f)) → Qd H) (en : n = XS.length := by first | rfl | simp) :
    ∃ W : Nat → Nat → Hp → Prop, (∃ m, W 0 m (upd H1 D (.lst []))) ∧ ∀ i m H, W i m H →
      (J.stop i H ∧ Qd H) ∨ (J.go i H ∧ ∃ Nx : Hp → Prop, (∀ H', Nx H' → ∃ m', m' < m ∧ W (i + 1) m' H') ∧ ∀ x H', J.yld i H x H' → g x (wipe σ vs) H' fun σ2 H2 => wipe σ2 vs = wipe σ vs ∧ tt σ2 H2 fun b H3 =>
        if b = true then te σ2 H3 fun y H4 => ∃ acc, H4 D = some (.lst acc) ∧ acc.length < sizeLine ∧ Nx (upd H4 D (.lst (acc ++ [y]))) else Nx H3) := by
  subst en
  refine lc_pure w hD (le_szl _ hn) hG (fun i H x H' h => by rw [(hY i H x H' h).1]; exact .refl) (fun i => (XS[i]?).bind f) ?_ ?_
  · intro i x H H' hi le y N hN
    obtain ⟨rfl, hx⟩ := hY i H x H' y
    refine hs x H' (List.mem_of_getElem? hx) le N fun H2 l => ?_
    have := hN H2 l
    rw [hx] at this
    exact this
  · intro H le e
    rw [fm_bind] at e
    exact hd H le e
theorem fm_map {α : Type} (xs : List α) (f : V → Option V) (g : α → V) (h : α → V) (e : ∀ x ∈ xs, f (g x) = some (h x)) : (xs.map g).filterMap f = xs.map h := by
  induction xs with
  | nil => rfl
  | cons x xs ih =>
    rw [List.map_cons, List.filterMap_cons, e x List.mem_cons_self, List.map_cons, ih fun y hy => e y (List.mem_cons_of_mem _ hy)]
theorem fm_filter {α : Type} (xs : List α) (f : V → Option V) (g : α → V) (p : α → Bool) (e : ∀ x ∈ xs, f (g x) = if p x then some (g x) else none) : (xs.map g).filterMap f = (xs.filter p).map g := by
  induction xs with
  | nil => rfl
  | cons x xs ih =>
    have h := e x List.mem_cons_self
    rw [List.map_cons, List.filterMap_cons, h, List.filter_cons]
    cases p x with
    | true => simp only [if_true, List.map_cons]; rw [ih fun y hy => e y (List.mem_cons_of_mem _ hy)]
    | false => simp only [Bool.false_eq_true, if_false]; exact ih fun y hy => e y (List.mem_cons_of_mem _ hy)
section
variable {X : Cx} {k j : Nat} {x : Str} {sp : Sp} {dvs : List V} {p pos : Pos}
/-- f(), a def of the module -/
theorem pe_c0 (c : C8.Cal X.prog X.w X.K X.mg X.base k x sp dvs) (hr : Room j X.A) (hk : k ≤ j) (hg : Gl X x) (hdb : (x == ("__debug__" : Str)) = false := by decide) : PE X (.Call (.Name x p) [] [] pos) (tCall sp dvs C8.E0 tNil) := by
  obtain ⟨f, fd, ps, ds, F, hm, kp, b, d⟩ := c.ex
  exact pe_call0 F (hr.mono hk) hg hm kp b d C8.pass0 hdb
end
theorem pg_tupK {X : Cx} {K : PySem.W.Frag} {es : List Expr} {k : Nat} {pos : Pos} {t : TGs} {n : Nat} (hK : X.K = K) (hc : X.calm = true) (h : PGs X es t)
    (hn : (assignEach es X.env).length = n := by rfl) (hst : (assignEach es X.env).findIdx? (·.1) = none := by rfl) : PG X (.Tuple es k pos) (gTup K n t) := by
  subst hK
  exact pg_tup hc h hn hst
theorem fm_zip {α β : Type} (B : List α) : ∀ (f : α → Nat → β), (List.range B.length).filterMap (fun i => (B[i]?).map fun c => f c i) = B.zipIdx.map fun p => f p.1 p.2 := by
  induction B with
  | nil => exact fun _ => rfl
  | cons x B ih =>
    intro f
    have h := ih fun c i => f c (i + 1)
    rw [List.length_cons, List.range_succ_eq_map, List.filterMap_cons, List.filterMap_map, List.zipIdx_cons, List.map_cons]
    show f x 0 :: _ = _
    congr 1
    refine Eq.trans ?_ (h.trans ?_)
    · rfl
    · rw [List.zipIdx_succ, List.map_map]
      rfl
end Od
end
section
set_option Elab.async false
set_option linter.all false
set_option maxRecDepth 100000
set_option maxHeartbeats 2000000
set_option autoImplicit false
/-! the law's own picks -/
namespace Od
open PySem PySem.Spec PyProof.Rows L2 C8
abbrev s__law_pick : Stmt := top 31
abbrev N__law_pick : List Str := ["_law_pen_here", "_law_options"]
abbrev P__law_pick : List Str := ["_law_pen_here", "_law_options"]
theorem sc__law_pick : FnScope N__law_pick P__law_pick (C8.fnScope s__law_pick) := fnScope_by (by decide +kernel)
section
variable {P : Program} {w : World} {K : PySem.W.Frag} {mg : Str → Option Value} {base : Heap}
def sp_pick : Sp := fun vs H Q _ => ∃ (d dl : Addr) (n : Int) (o : V), vs = [.ref d, o] ∧ IsPen H d dl n ∧ n ≤ 1000000000 ∧
  ((∃ z : Str, o = .str z ∧ 0 < z.length ∧ z.length ≤ 1000 ∧ ∀ c H', LeX d H H' → IsPen H' d dl (n + 1) → c ∈ z.cps.toList → Q (.str ⟨#[c]⟩) H') ∨
   (∃ (p : Addr) (xs : List V), o = .ref p ∧ H p = some (.lst xs) ∧ 0 < xs.length ∧ xs.length ≤ 1000000 ∧ ∀ v H', LeX d H H' → IsPen H' d dl (n + 1) → v ∈ xs → Q v H'))
theorem c_pick (T : Txt K mg) (F : DefOf K mg "_law_pick" s__law_pick P__law_pick) (C__law_draw : Cal P w K mg base 1 "_law_draw" sp_draw []) : Cal P w K mg base 2 "_law_pick" sp_pick [] := by
  obtain ⟨f, fd, F, B⟩ := F
  refine cal0 F B .nil sc__law_pick (fun vs H Q E h => by obtain ⟨_, _, _, _, rfl, _⟩ := h; rfl) (fun cdv A outer s H vs Q E hr h => ?_)
  obtain ⟨d, dl, n, o, rfl, pn, n1, h⟩ := h
  have nd := sc__law_pick.nd
  refine ⟨_, (pss_one (ps_ret (pe_ix ix_seq (pv 1) (pe_c C__law_draw hr (by decide) rfl (pa_cons (pv 0) (pa_cons (pe_callB call_len (by rfl) T.b_len (by decide +kernel) (pa_cons (pv 1) pa_nil)) pa_nil))) (fun _ _ => rfl)))), ?_⟩
  rcases h with ⟨z, rfl, z0, z1, q⟩ | ⟨p, xs, rfl, hp, x0, x1, q⟩
  · refine ⟨_, rfl, _, rfl, _, rfl, _, z.length, rfl, ⟨le_szl _ (by omega), rfl⟩, d, dl, _, n, rfl, pn, n1, by omega, lg9 _ (by omega) (by omega), fun r H1 l1 p1 r0 r1 => ?_⟩
    have ez : z.cps.toList.length = z.length := by simp [Str.length]
    obtain ⟨c, hc, e⟩ := at_mem (xs := z.cps.toList) r0 (by rw [ez]; exact r1)
    exact .inr (.inr ⟨z, r, c, rfl, rfl, le_szl _ (by omega), e, q c H1 l1 p1 hc⟩)
  · refine ⟨_, rfl, _, rfl, _, rfl, _, xs.length, rfl, .inl ⟨xs, .of hp, rfl⟩, d, dl, _, n, rfl, pn, n1, by omega, lg9 _ (by omega) (by omega), fun r H1 l1 p1 r0 r1 => ?_⟩
    obtain ⟨v, hv, e⟩ := at_mem (xs := xs) r0 r1
    exact .inl ⟨p, xs, r, v, rfl, rfl, .of (l1 _ _ (pn.ne hp) hp), e, q v H1 l1 p1 hv⟩
end
end Od
end
section
set_option Elab.async false
set_option linter.all false
set_option maxRecDepth 100000
set_option maxHeartbeats 2000000
set_option autoImplicit false
namespace Od
open PySem PySem.Spec PyProof.Rows L2 C8 Day
abbrev s__law_signs : Stmt := top 32
abbrev N__law_signs : List Str := ["_law_pen_here", "_law_least", "_law_most", "_law_kind", "_law_span", "_law_k"]
abbrev P__law_signs : List Str := ["_law_pen_here", "_law_least", "_law_most"]
theorem sc__law_signs : FnScope N__law_signs P__law_signs (C8.fnScope s__law_signs) := fnScope_by (by decide +kernel)
abbrev s__law_form : Stmt := top 33
abbrev N__law_form : List Str := ["_law_pen_here", "_law_most", "_law_middle", "_law_words"]
abbrev P__law_form : List Str := ["_law_pen_here", "_law_most"]
theorem sc__law_form : FnScope N__law_form P__law_form (C8.fnScope s__law_form) := fnScope_by (by decide +kernel)
theorem IsDay.lp {C : Addr} {H H' : Hp} {d p : Addr} {f : Int → Bool} (h : IsDay C H p f) (l : LeX d H H') (hd : ∃ kvs, H d = some (.dK kvs)) : IsDay C H' p f := by
  obtain ⟨F, dx, L, z, m, e⟩ := h
  refine ⟨F, dx, L, z, m, l p _ (fun c => ?_) e⟩
  subst c
  obtain ⟨k, e2⟩ := hd
  rw [e] at e2
  cases e2
theorem sg01 {r : Int} (h0 : 0 ≤ r) (h1 : r < 2) : atI (("01" : Str)).cps.toList r = some (sg (decide (r = 1))) := by
  have e : (("01" : Str)).cps.toList = [48, 49] := by decide +kernel
  rw [e]
  have : r = 0 ∨ r = 1 := by omega
  rcases this with rfl | rfl
  · exact atI_nat (j := 0) rfl
  · exact atI_nat (j := 1) rfl
theorem signs_of : ∀ rs : List (Option V), (∀ r ∈ rs, ∃ b, r = some (V.str ⟨#[sg b]⟩)) → ∃ bs : List Bool, rs.filterMap id = (bs.map fun b => (⟨#[sg b]⟩ : Str)).map V.str ∧ bs.length = rs.length
  | [], _ => ⟨[], rfl, rfl⟩
  | r :: rs, h => by
    obtain ⟨b, rfl⟩ := h r List.mem_cons_self
    obtain ⟨bs, e, l⟩ := signs_of rs fun q hq => h q (List.mem_cons_of_mem _ hq)
    exact ⟨b :: bs, by rw [List.filterMap_cons]; simp [e], by simp [l]⟩
theorem if_mid {m : List Bool} {σ : L2.St} {H : Hp} {Qk : VK} (hσ : σ[2]? = some (some (.str (rowS m)))) (h : Qk (.str (midS m)) H) : if (!decide (V.str (rowS m) = V.str ("" : Str))) = true then tVar 2 σ H Qk else tC (.str ("-" : Str)) σ H Qk := by
  have ed : decide (V.str (rowS m) = V.str ("" : Str)) = decide (m = []) := by rw [← rowS_nil, rowS_dec]
  rw [ed]
  by_cases c : m = []
  · rw [decide_eq_true c]
    have : midS m = ("-" : Str) := by unfold midS; rw [if_pos c]
    rw [this] at h
    exact h
  · rw [decide_eq_false c]
    have : midS m = rowS m := by unfold midS; rw [if_neg c]
    rw [this] at h
    exact ⟨_, hσ, h⟩
section
variable {P : Program} {w : World} {K : PySem.W.Frag} {mg : Str → Option Value} {base : Heap}
def sp_signs : Sp := fun vs H Q _ => ∃ (d dl : Addr) (n a b : Int), vs = [.ref d, .int a, .int b] ∧ IsPen H d dl n ∧ n ≤ 900000000 ∧ 0 ≤ a ∧ a ≤ b ∧ b ≤ 1000 ∧ ∀ l H', LeX d H H' → IsPen H' d dl (n + 2 + b) → a ≤ (l.length : Int) → (l.length : Int) ≤ b → Q (.str (rowS l)) H'
theorem c_signs (T : Txt K mg) (F : DefOf K mg "_law_signs" s__law_signs P__law_signs) (C__law_draw : Cal P w K mg base 1 "_law_draw" sp_draw []) : Cal P w K mg base 2 "_law_signs" sp_signs [] := by
  obtain ⟨f, fd, F, B⟩ := F
  refine cal0 F B .nil sc__law_signs (fun vs H Q E h => by obtain ⟨_, _, _, _, _, rfl, _⟩ := h; rfl) (fun cdv A outer s H vs Q E hr h => ?_)
  obtain ⟨d, dl, n, a, b, rfl, pn, n1, a0, ab, b1, q⟩ := h
  have nd := sc__law_signs.nd
  refine ⟨_, (pss_cons (ps_set (i := 3) nd rfl (Or.inr rfl) (pe_c C__law_draw hr (by decide) rfl (pa_cons (pv 0) (pa_cons pe_int pa_nil))))
      (pss_cons (ps_set (i := 4) nd rfl (Or.inl rfl) (pe_op op_add (pv 1) (pe_c C__law_draw hr (by decide) rfl (pa_cons (pv 0) (pa_cons (pe_op op_add (pe_op op_sub (pv 2) (pv 1)) pe_int) pa_nil)))))
      (pss_one (ps_ret (pe_join pe_str (pe_lc (own := [("_law_k", 5)]) (g := gName 5) (by rfl) nd (pi_range1 (by rfl) T.b_range (pa_cons (pv 4) pa_nil)) (blkOk_by (own := [("_law_k", 5)]) (N := N__law_signs) (sc := C8.fnScope s__law_signs) (by decide +kernel)) (fun _ _ _ _ _ => pg_name (i := 5) nd rfl (Or.inl rfl)) (fun _ _ _ _ _ => pts_nil) (fun _ _ _ _ _ => (pe_ix ix_str pe_str (pe_ifExp (pt_cmpR op_lt (pv 3) pe_int (nomark _)) (pv 3) (pe_c C__law_draw hr (by decide) rfl (pa_cons (pv 0) (pa_cons pe_int pa_nil)))) (fun _ _ => rfl))))))))), ?_⟩
  have lg : ∀ x : Int, 0 < x → x < 100000000 → x.natAbs.log2 < 9000 := fun x h0 h => Nat.lt_trans (log_lt (by omega)) (by decide)
  refine ⟨_, rfl, d, dl, 4, n, rfl, pn, by omega, by decide, lg 4 (by decide) (by decide), fun kind H1 l1 p1 k0 k1 => ?_⟩
  refine ⟨_, rfl, _, rfl, _, rfl, _, rfl, _, _, rfl, rfl, _, _, rfl, rfl, d, dl, _, n + 1, rfl, p1, by omega, by omega, lg _ (by omega) (by omega), fun r H2 l2 p2 r0 r1 => ?_⟩
  refine ⟨_, _, rfl, rfl, ?_⟩
  refine ⟨⟨_, rfl⟩, _, rfl, _, rfl, by omega, by omega, fun D hD => ?_⟩
  refine lc_pen walk_range hD p2 (le_szl _ (by omega)) (fun _ _ => trivial) yfn_le (fun r _ => ∃ b, r = some (V.str ⟨#[sg b]⟩)) (fun _ _ _ _ _ _ h => h) (c := 1) ?_ ?_
  · rintro i x Ha Hb hi lx ha pb ⟨rfl, rfl⟩ N hN
    refine ⟨rfl, ?_⟩
    refine ⟨_, rfl, _, _, rfl, rfl, _, rfl, ?_⟩
    refine ite2 (fun c => ?_) (fun c => ?_)
    · have hk : kind < 2 := of_decide_eq_true c
      exact ⟨_, rfl, _, _, _, rfl, rfl, le_szl 2 (by decide), sg01 k0 hk, hN _ _ Le.refl.x (pb.mono (by omega)) ⟨_, rfl⟩⟩
    · refine ⟨_, rfl, d, dl, 2, _, rfl, pb, by omega, by decide, lg 2 (by decide) (by decide), fun r2 H3 l3 p3 z0 z1 => ?_⟩
      exact ⟨_, _, _, rfl, rfl, le_szl 2 (by decide), sg01 z0 z1, hN _ _ l3 p3 ⟨_, rfl⟩⟩
  · intro H3 rs lx p3 hl hr e
    obtain ⟨bs, hb, hbl⟩ := signs_of rs hr
    rw [hb] at e
    refine ⟨_, D, bs.map fun b => (⟨#[sg b]⟩ : Str), rfl, rfl, .inl (.of e), ?_, ?_⟩
    · have : ((bs.map fun b => (⟨#[sg b]⟩ : Str)).map (·.length)).sum = bs.length := by
        rw [List.map_map]
        have e6 : (bs.map ((fun x : Str => x.length) ∘ fun b => (⟨#[sg b]⟩ : Str))) = bs.map fun _ => 1 := List.map_congr_left fun _ _ => rfl
        rw [e6, sum_one]
      have e7 : (("" : Str)).length = 0 := by decide +kernel
      rw [this, e7]
      omega
    rw [join_signs]
    exact q bs H3 ((l1.tr l2).tr lx) (p3.mono (by omega)) (by omega) (by omega)
def sp_form : Sp := fun vs H Q _ => ∃ (d dl : Addr) (n b : Int), vs = [.ref d, .int b] ∧ IsPen H d dl n ∧ n ≤ 800000000 ∧ 0 ≤ b ∧ b ≤ 100 ∧
  ∀ l k m r x H', LeX d H H' → IsPen H' d dl (n + 20 + b) → H x = none → l ≠ [] → r ≠ [] → l.length ≤ 4 → r.length ≤ 4 → (m.length : Int) ≤ b → -20 ≤ k → k ≤ 20 → H' x = some (.lst ((words4 l k m r).map V.str)) → Q (.ref x) H'
theorem c_form (T : Txt K mg) (F : DefOf K mg "_law_form" s__law_form P__law_form) (C__law_draw : Cal P w K mg base 1 "_law_draw" sp_draw []) (C__law_signs : Cal P w K mg base 2 "_law_signs" sp_signs []) : Cal P w K mg base 3 "_law_form" sp_form [] := by
  obtain ⟨f, fd, F, B⟩ := F
  refine cal0 F B .nil sc__law_form (fun vs H Q E h => by obtain ⟨_, _, _, _, rfl, _⟩ := h; rfl) (fun cdv A outer s H vs Q E hr h => ?_)
  obtain ⟨d, dl, n, b, rfl, pn, n1, b0, b1, q⟩ := h
  have nd := sc__law_form.nd
  refine ⟨_, (pss_cons (ps_set (i := 2) nd rfl (Or.inl rfl) (pe_c C__law_signs hr (by decide) rfl (pa_cons (pv 0) (pa_cons pe_int (pa_cons (pv 1) pa_nil)))))
      (pss_cons (ps_set (i := 3) nd rfl (Or.inl rfl) (pe_lst (pa_cons (pe_c C__law_signs hr (by decide) rfl (pa_cons (pv 0) (pa_cons pe_int (pa_cons pe_int pa_nil)))) (pa_cons (pe_callTy call_str_int (by rfl) T.b_str (by decide +kernel) (pa_cons (pe_op op_sub (pe_c C__law_draw hr (by decide) rfl (pa_cons (pv 0) (pa_cons pe_int pa_nil))) pe_int) pa_nil)) (pa_cons (pe_ifExp (pt_cmpR op_ne (pv 2) pe_str (nomark _)) (pv 2) pe_str) pa_nil)))))
      (pss_one (ps_ret (pe_op op_cat (pv 3) (pe_lst (pa_cons (pe_c C__law_signs hr (by decide) rfl (pa_cons (pv 0) (pa_cons pe_int (pa_cons pe_int pa_nil)))) pa_nil))))))), ?_⟩
  have lg : ∀ x : Int, 0 < x → x < 100000000 → x.natAbs.log2 < 9000 := fun x h0 h => Nat.lt_trans (log_lt (by omega)) (by decide)
  refine ⟨_, rfl, _, rfl, d, dl, n, 0, b, rfl, pn, by omega, by decide, b0, by omega, fun m H1 l1 p1 m0 m1 => ?_⟩
  refine ⟨_, rfl, d, dl, _, 1, 4, rfl, p1, by omega, by decide, by decide, by decide, fun l H2 l2 p2 x0 x1 => ?_⟩
  refine ⟨_, rfl, d, dl, 41, _, rfl, p2, by omega, by decide, lg 41 (by decide) (by decide), fun k H3 l3 p3 k0 k1 => ?_⟩
  refine ⟨_, _, rfl, rfl, _, rfl, Nat.lt_of_lt_of_le (log_lt (by omega)) (by decide), ?_⟩
  refine ⟨_, rfl, rfl, _, rfl, ?_⟩
  refine if_mid (m := m) rfl ?_
  refine ⟨le_szl 3 (by decide), fun q1 hq1 => ?_⟩
  have k3 : LeX d H H3 := (l1.tr l2).tr l3
  obtain ⟨kv3, d3⟩ := p3.dict
  have nq1 : q1 ≠ d := fun e => by rw [e, d3] at hq1; cases hq1
  have e1 : upd H3 q1 (.lst [.str (rowS l), .str (numS (k - 20)), .str (midS m)]) q1 = some (.lst [.str (rowS l), .str (numS (k - 20)), .str (midS m)]) := upd_self
  have p4 := p3.le (Le.new (o := .lst [.str (rowS l), .str (numS (k - 20)), .str (midS m)]) hq1)
  refine ⟨_, rfl, _, rfl, d, dl, _, 1, 4, rfl, p4, by omega, by decide, by decide, by decide, fun r H5 l5 p5 y0 y1 => ?_⟩
  refine ⟨le_szl 1 (by decide), fun q2 hq2 => ?_⟩
  have e5 := l5 _ _ nq1 e1
  have e6 := (Le.new (o := .lst [.str (rowS r)]) hq2) _ _ e5
  refine ⟨q1, q2, _, _, rfl, rfl, e6, upd_self, le_szl 4 (by decide), fun q3 hq3 => ?_⟩
  have hl0 : l ≠ [] := fun e => by rw [e] at x0; simp at x0
  have hr0 : r ≠ [] := fun e => by rw [e] at y0; simp at y0
  have k5 : LeX d H H5 := (k3.tr (Le.new (o := .lst [.str (rowS l), .str (numS (k - 20)), .str (midS m)]) hq1).x).tr l5
  have kA : LeX d H (upd (upd H5 q2 (.lst [.str (rowS r)])) q3 (.lst ([.str (rowS l), .str (numS (k - 20)), .str (midS m)] ++ [.str (rowS r)]))) := k5.tr ((Le.new (o := .lst [.str (rowS r)]) hq2).trans (Le.new hq3)).x
  refine q l (k - 20) m r q3 _ kA ((p5.le ((Le.new (o := .lst [.str (rowS r)]) hq2).trans (Le.new hq3))).mono (by omega)) ?_ hl0 hr0 (by omega) (by omega) m1 (by omega) (by omega) upd_self
  cases h : H q3 with
  | none => rfl
  | some o =>
    obtain ⟨kv5, d5⟩ := p5.dict
    have nq3 : q3 ≠ d := fun e => by
      rw [e] at hq3
      rw [(Le.new (o := .lst [.str (rowS r)]) hq2) _ _ d5] at hq3
      cases hq3
    have := (k5.tr (Le.new (o := .lst [.str (rowS r)]) hq2).x) q3 o nq3 h
    rw [hq3] at this
    cases this
/-! ### made_set -/
theorem join_len : ∀ (y : Str) (ys : List Str) (n : Nat), y.length = 1 → (∀ x ∈ ys, x.length ≤ n) → (ys.map (·.length)).sum ≤ ys.length * n := by
  intro y ys n _ h
  induction ys with
  | nil => simp
  | cons a l ih =>
    rw [List.map_cons, List.sum_cons, List.length_cons, Nat.succ_mul]
    have := ih fun x hx => h x (List.mem_cons_of_mem _ hx)
    have := h a List.mem_cons_self
    omega
end
end Od
end
section
set_option Elab.async false
set_option linter.all false
set_option maxRecDepth 100000
set_option maxHeartbeats 2000000
set_option autoImplicit false
/-! law k02's own functions -/
namespace Od
open PySem PySem.Spec PyProof.Rows L2 C8 Day
abbrev s__law_is_number : Stmt := top 34
abbrev N__law_is_number : List Str := ["_law_word", "_law_digits", "_law_sign"]
abbrev P__law_is_number : List Str := ["_law_word"]
theorem sc__law_is_number : FnScope N__law_is_number P__law_is_number (C8.fnScope s__law_is_number) := fnScope_by (by decide +kernel)
abbrev s__law_wrong : Stmt := top 35
abbrev N__law_wrong : List Str := ["_law_text", "_law_words", "_law_at", "_law_word", "_law_good", "_law_sign"]
abbrev P__law_wrong : List Str := ["_law_text"]
theorem sc__law_wrong : FnScope N__law_wrong P__law_wrong (C8.fnScope s__law_wrong) := fnScope_by (by decide +kernel)
abbrev s__law_bent : Stmt := top 36
abbrev N__law_bent : List Str := ["_law_pen_here", "_law_words", "_law_at", "_law_way", "_law_some", "_law_odd"]
abbrev P__law_bent : List Str := ["_law_pen_here", "_law_words"]
theorem sc__law_bent : FnScope N__law_bent P__law_bent (C8.fnScope s__law_bent) := fnScope_by (by decide +kernel)
abbrev s__law_read : Stmt := top 37
abbrev N__law_read : List Str := ["_law_text", "e"]
abbrev P__law_read : List Str := ["_law_text"]
theorem sc__law_read : FnScope N__law_read P__law_read (C8.fnScope s__law_read) := fnScope_by (by decide +kernel)
abbrev s__law_turned : Stmt := top 38
abbrev N__law_turned : List Str := ["_law_n", "_law_p", "e"]
abbrev P__law_turned : List Str := ["_law_n", "_law_p"]
theorem sc__law_turned : FnScope N__law_turned P__law_turned (C8.fnScope s__law_turned) := fnScope_by (by decide +kernel)
theorem fm_cps (z : Str) (f : Nat → Option V) : (List.range z.cps.size).filterMap (fun i => (z.cps[i]?).bind f) = z.cps.toList.filterMap f := by
  have h := fm_bind z.cps.toList f
  rw [Array.length_toList] at h
  rw [← h]
  simp only [Array.getElem?_toList]
/-- the signs that are not right -/
def badS (ok : Nat → Prop) [DecidablePred ok] (l : List Nat) : List V := l.filterMap fun c => if ok c then none else some (V.str ⟨#[c]⟩)
theorem badS_nil {ok : Nat → Prop} [DecidablePred ok] {l : List Nat} : badS ok l = [] ↔ ∀ c ∈ l, ok c := by
  unfold badS
  rw [List.filterMap_eq_nil_iff]
  constructor
  · intro h c hc
    have := h c hc
    by_cases k : ok c
    · exact k
    · rw [if_neg k] at this
      cases this
  · intro h c hc
    rw [if_pos (h c hc)]
/-- texts of at most n signs -/
def StrL (n : Nat) (l : List V) : Prop := ∀ v ∈ l, ∃ w : Str, v = .str w ∧ w.length ≤ n
theorem StrL.cut {n : Nat} {l : List V} (h : StrL n l) (lo hi : Option Int) : StrL n (cutV l lo hi) := fun v hv => by
  unfold cutV at hv
  exact h v (List.mem_of_mem_drop (List.mem_of_mem_take hv))
theorem StrL.app {n : Nat} {l m : List V} (h : StrL n l) (k : StrL n m) : StrL n (l ++ m) := fun v hv => (List.mem_append.mp hv).elim (h v) (k v)
theorem StrL.one {n : Nat} {w : Str} (h : w.length ≤ n) : StrL n [V.str w] := fun v hv => by
  simp only [List.mem_singleton] at hv
  exact ⟨w, hv, h⟩
theorem StrL.row {n : Nat} : ∀ {l : List V}, StrL n l → ∃ ws : List Str, l = ws.map V.str ∧ ∀ w ∈ ws, w.length ≤ n
  | [], _ => ⟨[], rfl, fun _ h => by cases h⟩
  | v :: l, h => by
    obtain ⟨w, rfl, hw⟩ := h v List.mem_cons_self
    obtain ⟨ws, e, k⟩ := StrL.row (l := l) fun x hx => h x (List.mem_cons_of_mem _ hx)
    refine ⟨w :: ws, by rw [e]; rfl, fun y hy => ?_⟩
    rcases List.mem_cons.mp hy with rfl | hy
    · exact hw
    · exact k y hy
/-- what the law knows of an error class that it catches -/
structure ErrR (K : PySem.W.Frag) (mg : Str → Option Value) (CB CC ow : Addr) : Prop where
  ve : mg "ValueError" = none
  g_OneWayError : ∃ u, mg "OneWayError" = some u ∧ L2.RelV (.ref ow) u
  m_BadDays : mg "BadDays" = some (.ref CB)
  m_BadCount : mg "BadCount" = some (.ref CC)
  xf_BadDays : XfC K CB
  xf_BadCount : XfC K CC
  n_BadDays_index : PySem.W.findIn K (.ref CB) "index" = some none
  n_BadCount_count : PySem.W.findIn K (.ref CC) "count" = some none
  ecB : ExcC K CB
  ecC : ExcC K CC
  kB : PySem.W.kitOne K (.ref CB) (.ref ow) = some true
  kC : PySem.W.kitOne K (.ref CC) (.ref ow) = some true
  vB : PySem.W.kitOne K (.ref CB) (.type "ValueError") = some true
  vC : PySem.W.kitOne K (.ref CC) (.type "ValueError") = some true
  xB : PySem.W.exmOne K (.ref CB) (.ref CB) = some true
  xC : PySem.W.exmOne K (.ref CC) (.ref CC) = some true
theorem relR {a : Addr} : ∀ u, L2.RelV (.ref a) u → u = .ref a := fun _ h => h
theorem relT {n : String} : ∀ u, L2.RelV (.ty n) u → u = .type n := fun _ h => h
section
variable {P : Program} {w : World} {K : PySem.W.Frag} {mg : Str → Option Value} {base : Heap}
theorem c_lisnum (T : Txt K mg) (F : DefOf K mg "_law_is_number" s__law_is_number P__law_is_number) : Cal P w K mg base 1 "_law_is_number" (sp_isL IsNum) [] := by
  obtain ⟨f, fd, F, B⟩ := F
  refine cal0 F B .nil sc__law_is_number (fun vs H Q E h => by obtain ⟨_, rfl, _⟩ := h; rfl) (fun cdv A outer s H vs Q E hr h => ?_)
  obtain ⟨z, rfl, hz, q⟩ := h
  have nd := sc__law_is_number.nd
  refine ⟨_, (C8.pss_cut (ps_set (i := 1) nd rfl (Or.inl rfl) (pe_ifExp (pt_cmpR op_eq (pe_slice sl_str (pv 0) po_none (po_some pe_int)) pe_str (nomark _)) (pe_slice sl_str (pv 0) (po_some pe_int) po_none) (pv 0)))
      (pss_cons (ps_if (PW.pt (pw_or (pt_cmpR op_eq (pv 1) pe_str (nomark _)) (pw_or1 (pt_cmpR (op_neE hr.units) (pe_lc (own := [("_law_sign", 2)]) (g := gName 2) (by rfl) nd (pi_str (pv 1)) (blkOk_by (own := [("_law_sign", 2)]) (N := N__law_is_number) (sc := C8.fnScope s__law_is_number) (by decide +kernel)) (fun _ _ _ _ _ => pg_name (i := 2) nd rfl (Or.inl rfl)) (fun _ _ _ _ _ => pts_one (pt_cmpR op_notIn_sign (pv 2) pe_str (by rfl))) (fun _ _ _ _ _ => (pv 2))) (pe_lst pa_nil) (nomark _))))) (pss_one (ps_ret pe_bl)) pss_nil)
      (pss_one (ps_ret (pe_or (pe_cmpR op_eq (pv 0) pe_str (nomark _)) (pe_one (pe_cmpR op_ne (pe_ix ix_str (pv 1) pe_int (fun _ _ => rfl)) pe_str (nomark _)))))))), ?_⟩
  have hz1 : z.length ≤ sizeLine := le_szl _ (by omega)
  have c1 : (cutS z none (some 1)).cps.toList = z.cps.toList.take 1 := cutS_to z 1
  have c2 : (cutS z (some 1) none).cps.toList = z.cps.toList.drop 1 := cutS_from z 1
  -- the digits
  refine ⟨fun σ' H' => ∃ y : Str, H' = H ∧ y.length ≤ 1000000 ∧ ((∃ r, z.cps.toList = 45 :: r ∧ y.cps.toList = r) ∨ (z.cps.toList.take 1 ≠ [45] ∧ y = z)) ∧ σ' = [some (.str z), some (.str y), none], ?_, ?_⟩
  · refine ⟨_, rfl, _, rfl, _, rfl, hz1, rfl, _, rfl, ?_⟩
    show if decide (V.str (cutS z none (some 1)) = V.str ("-" : Str)) = true then _ else _
    rw [str_dec _ [45] "-" tl_dash, c1]
    refine ite2 (fun c => ?_) (fun c => ?_)
    · have h1 : z.cps.toList.take 1 = [45] := of_decide_eq_true c
      obtain ⟨r, hr⟩ : ∃ r, z.cps.toList = 45 :: r := by
        cases h : z.cps.toList with
        | nil => rw [h] at h1; cases h1
        | cons a r =>
          rw [h] at h1
          have : a = 45 := by simpa using h1
          exact ⟨r, by rw [this]⟩
      have hlen : (cutS z (some 1) none).length ≤ 1000000 := by
        rw [← cps_len, c2, List.length_drop, cps_len]
        omega
      exact ⟨_, rfl, _, rfl, _, rfl, hz1, cutS z (some 1) none, rfl, hlen, .inl ⟨r, hr, by rw [c2, hr]; rfl⟩, rfl⟩
    · exact ⟨_, rfl, z, rfl, hz, .inr ⟨fun e => c (decide_eq_true e), rfl⟩, rfl⟩
  rintro σ' H1 ⟨y, rfl, yl, hy, rfl⟩
  have hy1 : y.length ≤ sizeLine := le_szl _ (by omega)
  have dig : (("0123456789" : Str)).cps.toList = [48, 49, 50, 51, 52, 53, 54, 55, 56, 57] := by decide +kernel
  have hnum : IsNum z.cps.toList ↔ y.cps.toList ≠ [] ∧ (∀ c ∈ y.cps.toList, 48 ≤ c ∧ c ≤ 57) ∧ (z.cps.toList = [48] ∨ y.cps.toList.head? ≠ some 48) := by
    rcases hy with ⟨r, h1, h2⟩ | ⟨h1, rfl⟩
    · rw [h1, h2]
      constructor
      · rintro (⟨r', e, ⟨a1, a2, a3⟩, a4⟩ | ⟨_, h, _⟩)
        · have : r = r' := by injection e
          subst this
          exact ⟨a1, a2, .inr (a3.elim (fun h => absurd h a4) id)⟩
        · have := h 45 List.mem_cons_self
          omega
      · rintro ⟨a1, a2, a3⟩
        have a3 : r.head? ≠ some 48 := a3.elim (fun h => by cases h) id
        exact .inl ⟨r, rfl, ⟨a1, a2, .inr a3⟩, fun e => a3 (by rw [e]; rfl)⟩
    · constructor
      · rintro (⟨r, e, _⟩ | h)
        · exact absurd (by rw [e]; rfl) h1
        · exact h
      · exact fun h => .inr h
  refine ⟨_, rfl, rfl, _, rfl, ?_⟩
  show if decide (V.str y = V.str ("" : Str)) = true then _ else _
  rw [str_dec y [] "" tl_nil]
  refine ite2 (fun c => ?_) (fun c => ?_)
  · have he : y.cps.toList = [] := of_decide_eq_true c
    exact q _ _ .refl ⟨fun h => (by cases h), fun h => absurd he (hnum.mp h).1⟩
  have hne : y.cps.toList ≠ [] := fun e => c (decide_eq_true e)
  refine ⟨_, rfl, _, rfl, fun d hd => ?_⟩
  refine lc_pure walk_str hd ?_ (fun _ _ => trivial) (fun _ _ _ _ h => by rw [h.1]; exact .refl) (fun i => (y.cps[i]?).bind fun c => if 48 ≤ c ∧ c ≤ 57 then none else some (V.str ⟨#[c]⟩)) ?_ ?_
  · exact le_szl _ (show y.length ≤ 16777216 by omega)
  · rintro i x H1 H2 hi le ⟨rfl, c, hc, rfl⟩ N hN
    have hN := hN H2 .refl
    rw [hc] at hN
    have hN : N (if 48 ≤ c ∧ c ≤ 57 then none else some (V.str ⟨#[c]⟩)) H2 := hN
    refine ⟨rfl, _, rfl, c, _, rfl, rfl, _, rfl, ?_⟩
    have e : decide (c ∈ (("0123456789" : Str)).cps.toList) = decide (48 ≤ c ∧ c ≤ 57) := by
      rw [dig, decide_eq_decide]
      simp
      omega
    rw [e]
    by_cases k : 48 ≤ c ∧ c ≤ 57
    · rw [decide_eq_true k]
      rw [if_pos k] at hN
      exact iteF hN
    · rw [decide_eq_false k]
      rw [if_neg k] at hN
      exact iteT ⟨_, rfl, hN⟩
  · intro H1 le e
    have e : H1 d = some (.lst (badS (fun c => 48 ≤ c ∧ c ≤ 57) y.cps.toList)) := by
      rw [e]
      exact congrArg (fun l => some (HO.lst l)) (fm_cps y fun c => if 48 ≤ c ∧ c ≤ 57 then none else some (V.str ⟨#[c]⟩))
    refine ⟨Nat.zero_le _, fun d2 hd2 => ?_⟩
    have l2 := Le.new (o := .lst []) hd2
    refine ⟨d, d2, _, _, rfl, rfl, .of (l2 _ _ e), .of upd_self, .inr rfl, _, rfl, ?_⟩
    have bl : (badS (fun c => 48 ≤ c ∧ c ≤ 57) y.cps.toList).length = ([] : List V).length ↔ ∀ c ∈ y.cps.toList, 48 ≤ c ∧ c ≤ 57 := by
      rw [← badS_nil, List.length_nil, List.length_eq_zero_iff]
    refine ite2 (fun c3 => ?_) (fun c3 => ?_)
    · refine q _ _ (le.trans l2) ⟨fun h => (by cases h), fun h => ?_⟩
      have := bl.mpr (hnum.mp h).2.1
      rw [decide_eq_true this] at c3
      cases c3
    have hd3 : ∀ c ∈ y.cps.toList, 48 ≤ c ∧ c ≤ 57 := bl.mp (by
      by_cases h : (badS (fun c => 48 ≤ c ∧ c ≤ 57) y.cps.toList).length = ([] : List V).length
      · exact h
      · rw [decide_eq_false h] at c3
        exact absurd rfl c3)
    refine ⟨_, rfl, rfl, _, rfl, ?_⟩
    show if decide (V.str z = V.str ("0" : Str)) = true then _ else _
    rw [str_dec z [48] "0" (by decide +kernel)]
    refine ite2 (fun c4 => ?_) (fun c4 => ?_)
    · exact q _ _ (le.trans l2) ⟨fun _ => hnum.mpr ⟨hne, hd3, .inl (of_decide_eq_true c4)⟩, fun _ => rfl⟩
    · cases hl : y.cps.toList with
      | nil => exact absurd hl hne
      | cons a r =>
        refine ⟨_, rfl, y, 0, a, rfl, rfl, hy1, by rw [hl]; exact atI_nat (j := 0) rfl, rfl, q _ _ (le.trans l2) ?_⟩
        have e2 : decide (V.str ⟨#[a]⟩ = V.str ("0" : Str)) = decide (a = 48) := by
          rw [str_dec _ [48] "0" (by decide +kernel), decide_eq_decide]
          show [a] = [48] ↔ _
          simp
        show (!decide (V.str ⟨#[a]⟩ = V.str ("0" : Str))) = true ↔ _
        rw [e2, hnum]
        constructor
        · intro h
          refine ⟨hne, hd3, .inr ?_⟩
          rw [hl]
          intro e
          have : a = 48 := Option.some.inj e
          rw [decide_eq_true this] at h
          cases h
        · rintro ⟨_, _, h | h⟩
          · exact absurd (decide_eq_true h) c4
          · rw [hl] at h
            have : a ≠ 48 := fun e => h (by rw [e]; rfl)
            rw [decide_eq_false this]
            rfl
def optV : Option Nat → V
  | none => .non
  | some i => .int i
def sp_wrong : Sp := fun vs H Q _ => ∃ z : Str, vs = [.str z] ∧ z.length ≤ 600 ∧ ∀ o H', Due (wordsT z) o → Le H H' → Q (optV o) H'
theorem c_wrong (T : Txt K mg) (F : DefOf K mg "_law_wrong" s__law_wrong P__law_wrong) (C__law_is_number : Cal P w K mg base 1 "_law_is_number" (sp_isL IsNum) []) : Cal P w K mg base 2 "_law_wrong" sp_wrong [] := by
  obtain ⟨f, fd, F, B⟩ := F
  refine cal0 F B .nil sc__law_wrong (fun vs H Q E h => by obtain ⟨_, rfl, _⟩ := h; rfl) (fun cdv A outer s H vs Q E hr h => ?_)
  obtain ⟨z, rfl, hz, qq⟩ := h
  have nd := sc__law_wrong.nd
  refine ⟨_, (C8.pss_cut (ps_set (i := 1) nd rfl (Or.inl rfl) (pe_ifExp (pt_cmpR op_ne (pv 0) pe_str (nomark _)) (pe_split (pv 0) pe_str) (pe_lst pa_nil)))
      (C8.pss_cut (ps_for PassesOwn.never rfl (pi_enum (by rfl) T.b_enumerate (pa_cons (pe_slice sl_list (pv 1) po_none (po_some pe_int)) pa_nil)) (pg_tup rfl (pgs_cons (pg_name (i := 2) nd rfl (Or.inl rfl)) (pgs_cons (pg_name (i := 3) nd rfl (Or.inl rfl)) pgs_nil))) (C8.pss_cut (ps_set (i := 4) nd rfl (Or.inl rfl) (pe_or (pe_and (pe_cmpR op_ne (pv 3) pe_str (nomark _)) (pe_one (pe_cmpR (op_eqE hr.units) (pe_lc (own := [("_law_sign", 5)]) (g := gName 5) (by rfl) nd (pi_str (pv 3)) (blkOk_by (own := [("_law_sign", 5)]) (N := N__law_wrong) (sc := C8.fnScope s__law_wrong) (by decide +kernel)) (fun _ _ _ _ _ => pg_name (i := 5) nd rfl (Or.inl rfl)) (fun _ _ _ _ _ => pts_one (pt_cmpR op_notIn_sign (pv 5) pe_str (by rfl))) (fun _ _ _ _ _ => (pv 5))) (pe_lst pa_nil) (nomark _)))) (pe_one (pe_and (pe_cmpR op_eq (pv 2) pe_int (nomark _)) (pe_one (pe_cmpR op_eq (pv 3) pe_str (nomark _)))))))
      (pss_one (ps_if (pt_not (pt_ifE (pt_cmpR op_eq (pv 2) pe_int (nomark _)) (pt_val (pe_c C__law_is_number hr (by decide) rfl (pa_cons (pv 3) pa_nil))) (pt_val (pv 4)))) (pss_one (ps_ret (pv 2))) pss_nil))))
      (pss_one (ps_ret (pe_ifExp (pt_cmpR op_eq (pe_callB call_len_seq (by rfl) T.b_len (by decide +kernel) (pa_cons (pv 1) pa_nil)) pe_int (nomark _)) pe_non (pe_callB (call_min2 rfl) (by rfl) T.b_min (by decide +kernel) (pa_cons pe_int (pa_cons (pe_callB call_len_seq (by rfl) T.b_len (by decide +kernel) (pa_cons (pv 1) pa_nil)) pa_nil)))))))), ?_⟩
  have sz : sizeLine = 16777216 := sizeLine_eq
  refine ⟨fun σ' H' => ∃ dw, Le H H' ∧ H' dw = some (.lst ((wordsT z).map V.str)) ∧ σ' = [some (.str z), some (.ref dw), none, none, none, none], ?_, ?_⟩
  · refine ⟨_, rfl, rfl, _, rfl, ?_⟩
    show if (!decide (V.str z = V.str ("" : Str))) = true then _ else _
    rw [str_dec _ [] "" tl_nil]
    by_cases c : z.cps.toList = []
    · rw [decide_eq_true c]
      refine ⟨Nat.zero_le _, fun q hq => ?_⟩
      have ew : wordsT z = [] := by unfold wordsT; rw [if_pos c]
      rw [ew]
      exact ⟨q, Le.new hq, upd_self, rfl⟩
    · rw [decide_eq_false c]
      refine ⟨_, rfl, ⟨_, rfl⟩, _, _, rfl, rfl, by decide +kernel, by omega, fun q hq => ?_⟩
      have ew : Txt.split z (" " : Str) = wordsT z := by unfold wordsT; rw [if_neg c, split_words]
      rw [ew]
      exact ⟨q, Le.new hq, upd_self, rfl⟩
  rintro σ' H1 ⟨dw, l1, e1, rfl⟩
  have wlen : ∀ y ∈ wordsT z, y.length ≤ 600 := fun y hy => Nat.le_trans (words_le hy) hz
  generalize hws : wordsT z = ws at *
  refine ⟨fun σ' H' => Le H1 H' ∧ (∀ j, j < 4 → ∀ y, ws[j]? = some y → GoodW j y) ∧ ∃ x2 x3 x4 x5, σ' = [some (.str z), some (.ref dw), x2, x3, x4, x5], ?_, ?_⟩
  · refine ⟨_, rfl, _, rfl, dw, _, rfl, .of e1, fun q hq => ?_⟩
    have ec : cutV (ws.map V.str) none (some 4) = (ws.take 4).map V.str := by
      have := cutV_t (ws.map V.str) 4
      rw [List.map_take]
      exact this
    rw [ec]
    have k1 := Le.new (o := .lst ((ws.take 4).map V.str)) hq
    refine ⟨q, _, rfl, .of upd_self, ?_⟩
    refine for_it (walk_enum (K := K) (a := q) (xs := (ws.take 4).map V.str)) (fun i σ' H' => Le (upd H1 q (.lst ((ws.take 4).map V.str))) H' ∧ (∀ j, j < i → ∀ y, ws[j]? = some y → GoodW j y) ∧ ∃ x2 x3 x4 x5, σ' = [some (.str z), some (.ref dw), x2, x3, x4, x5]) ?_ ?_ ?_ ?_
    · exact ⟨.refl, fun j hj => absurd hj (Nat.not_lt_zero _), _, _, _, _, rfl⟩
    · rintro i σ' H' _ ⟨le, _⟩
      exact .of (le _ _ upd_self)
    · rintro i v σ' Ha Hb hi ⟨le, gd, x2, x3, x4, x5, rfl⟩ ⟨Tt, x, y, rfl, hT, rfl, hx, hy⟩
      have hx : V.int (i : Nat) = x := Option.some.inj hx
      subst hx
      have leT := le.trans (Le.new (o := .tup [.int (i : Nat), y]) hT)
      have hy : ((ws.take 4).map V.str)[i]? = some y := hy
      rw [List.getElem?_map] at hy
      obtain ⟨u, hu, rfl⟩ := Option.map_eq_some_iff.mp hy
      have i4 : i < 4 := by
        have := (List.getElem?_eq_some_iff.mp hu).1
        rw [List.length_take] at this
        omega
      have hu : ws[i]? = some u := by rw [List.getElem?_take_of_lt i4] at hu; exact hu
      have ulen := wlen u (List.mem_of_getElem? hu)
      refine ⟨Tt, _, rfl, .of upd_self, rfl, _, _, rfl, _, _, rfl, rfl, ?_⟩
      generalize hHc : upd Ha Tt (.tup [.int (i : Nat), .str u]) = Hc at leT ⊢
      -- good
      refine ⟨fun σ' H' => ∃ b : Bool, Le Hc H' ∧ (b = true ↔ IsRowL u.cps.toList ∨ (i = 2 ∧ u = ("-" : Str))) ∧ σ' = [some (.str z), some (.ref dw), some (.int (i : Nat)), some (.str u), some (.bl b), x5], ?_, ?_⟩
      · refine ⟨_, rfl, rfl, _, rfl, ?_⟩
        rw [str_dec u [] "" tl_nil]
        refine ite2 (fun c => ?_) (fun c => ?_)
        · have hne : u.cps.toList ≠ [] := fun e => by rw [decide_eq_true e] at c; cases c
          refine ⟨_, rfl, _, rfl, fun d hd => ?_⟩
          refine lc_pure walk_str hd ?_ (fun _ _ => trivial) (fun _ _ _ _ h => by rw [h.1]; exact .refl) (fun i => (u.cps[i]?).bind fun c => if c = 48 ∨ c = 49 then none else some (V.str ⟨#[c]⟩)) ?_ ?_
          · exact le_szl _ (show u.length ≤ 16777216 by omega)
          · rintro i x H1 H2 hi le ⟨rfl, c, hc, rfl⟩ N hN
            have hN := hN H2 .refl
            rw [hc] at hN
            have hN : N (if c = 48 ∨ c = 49 then none else some (V.str ⟨#[c]⟩)) H2 := hN
            refine ⟨rfl, _, rfl, c, _, rfl, rfl, _, rfl, ?_⟩
            have e : decide (c ∈ (("01" : Str)).cps.toList) = decide (c = 48 ∨ c = 49) := by
              rw [show (("01" : Str)).cps.toList = [48, 49] by decide +kernel]
              simp
            rw [e]
            by_cases k : c = 48 ∨ c = 49
            · rw [decide_eq_true k]
              rw [if_pos k] at hN
              exact iteF hN
            · rw [decide_eq_false k]
              rw [if_neg k] at hN
              exact iteT ⟨_, rfl, hN⟩
          · intro H5 l5 e
            have e : H5 d = some (.lst (badS (fun c => c = 48 ∨ c = 49) u.cps.toList)) := by
              rw [e]
              exact congrArg (fun l => some (HO.lst l)) (fm_cps u fun c => if c = 48 ∨ c = 49 then none else some (V.str ⟨#[c]⟩))
            refine ⟨Nat.zero_le _, fun d2 hd2 => ?_⟩
            have l2 := Le.new (o := .lst []) hd2
            refine ⟨d, d2, _, _, rfl, rfl, .of (l2 _ _ e), .of upd_self, .inr rfl, _, rfl, ?_⟩
            have bl : (badS (fun c => c = 48 ∨ c = 49) u.cps.toList).length = ([] : List V).length ↔ ∀ c ∈ u.cps.toList, c = 48 ∨ c = 49 := by
              rw [← badS_nil, List.length_nil, List.length_eq_zero_iff]
            have l52 := l5.trans l2
            refine ite2 (fun c3 => ?_) (fun c3 => ?_)
            · exact ⟨_, l52, ⟨fun _ => .inl ⟨hne, bl.mp (of_decide_eq_true c3)⟩, fun _ => rfl⟩, rfl⟩
            · have nr : ¬ IsRowL u.cps.toList := fun h => c3 (decide_eq_true (bl.mpr h.2))
              refine ⟨_, rfl, rfl, _, rfl, ?_⟩
              refine ite2 (fun c5 => ?_) (fun c5 => ?_)
              · have i2 : i = 2 := by
                  have := of_decide_eq_true c5
                  injection this with this
                  omega
                refine ⟨_, rfl, rfl, _, l52, ⟨fun h => .inr ⟨i2, V.str.inj (of_decide_eq_true h)⟩, fun h => h.elim (fun h => absurd h nr) fun h => decide_eq_true (congrArg V.str h.2)⟩, rfl⟩
              · exact ⟨_, l52, ⟨fun h => (by cases h), fun h => h.elim (fun h => absurd h nr) fun h => absurd (by rw [h.1]; rfl) c5⟩, rfl⟩
        · have nr : ¬ IsRowL u.cps.toList := fun h => by
            rw [decide_eq_false h.1] at c
            exact c rfl
          refine ⟨_, rfl, iteF ?_⟩
          refine ⟨_, rfl, rfl, _, rfl, ?_⟩
          refine ite2 (fun c5 => ?_) (fun c5 => ?_)
          · have i2 : i = 2 := by
              have := of_decide_eq_true c5
              injection this with this
              omega
            refine ⟨_, rfl, rfl, _, .refl, ⟨fun h => .inr ⟨i2, V.str.inj (of_decide_eq_true h)⟩, fun h => h.elim (fun h => absurd h nr) fun h => decide_eq_true (congrArg V.str h.2)⟩, rfl⟩
          · exact ⟨_, .refl, ⟨fun h => (by cases h), fun h => h.elim (fun h => absurd h nr) fun h => absurd (by rw [h.1]; rfl) c5⟩, rfl⟩
      rintro σ' H4 ⟨b, l4, hb, rfl⟩
      have good : ∀ {H3 : Hp}, Le Hc H3 → GoodW i u → Le (upd H1 q (.lst ((ws.take 4).map V.str))) H3 ∧ (∀ j, j < i + 1 → ∀ y, ws[j]? = some y → GoodW j y) ∧ ∃ y2 y3 y4 y5, [some (V.str z), some (.ref dw), some (.int (i : Nat)), some (.str u), some (.bl b), x5] = [some (.str z), some (.ref dw), y2, y3, y4, y5] := fun l3 hg => by
        refine ⟨leT.trans l3, fun j hj y hy2 => ?_, _, _, _, x5, rfl⟩
        by_cases c : j = i
        · rw [c, hu] at hy2
          cases hy2
          rw [c]
          exact hg
        · exact gd j (by omega) y hy2
      have bad : ¬ GoodW i u → Due ws (some i) := fun h => .inl ⟨i, u, rfl, i4, hu, h, gd⟩
      have leH : ∀ {H3 : Hp}, Le Hc H3 → Le H H3 := fun l3 => ((l1.trans k1).trans leT).trans l3
      refine ⟨_, rfl, rfl, _, rfl, ?_⟩
      refine ite2 (fun c => ?_) (fun c => ?_)
      · have i1 : i = 1 := by
          have := of_decide_eq_true c
          injection this with this
          omega
        refine ⟨_, rfl, _, rfl, by omega, fun b2 H3 l3 hb2 => ⟨_, rfl, ?_⟩⟩
        cases b2 with
        | true =>
          refine iteF ?_
          exact good (l4.trans l3) (by unfold GoodW; rw [if_pos i1]; exact hb2.mp rfl)
        | false =>
          have nb : ¬ GoodW i u := by
            unfold GoodW
            rw [if_pos i1]
            exact fun h => by have := hb2.mpr h; cases this
          exact iteT ⟨_, rfl, qq (some i) _ (bad nb) (leH (l4.trans l3))⟩
      · have i1 : i ≠ 1 := fun e => c (by rw [e]; rfl)
        refine ⟨_, rfl, _, rfl, ?_⟩
        cases b with
        | true =>
          refine iteF ?_
          exact good l4 (by unfold GoodW; rw [if_neg i1]; exact hb.mp rfl)
        | false =>
          have nb : ¬ GoodW i u := by
            unfold GoodW
            rw [if_neg i1]
            exact fun h => by have := hb.mpr h; cases this
          exact iteT ⟨_, rfl, qq (some i) _ (bad nb) (leH l4)⟩
    · rintro σ' H' ⟨le, gd, h⟩
      refine ⟨k1.trans le, fun j hj y hy => gd j ?_ y hy, h⟩
      have := (List.getElem?_eq_some_iff.mp hy).1
      rw [List.length_map, List.length_take]
      omega
  rintro σ' H2 ⟨l2, gd, x2, x3, x4, x5, rfl⟩
  have e2 := l2 _ _ e1
  have le2 := l1.trans l2
  refine ⟨_, rfl, dw, _, rfl, .inl (.of e2), rfl, _, rfl, ?_⟩
  rw [List.length_map]
  refine ite2 (fun c => ?_) (fun c => ?_)
  · have h4 : ws.length = 4 := by
      have := of_decide_eq_true c
      injection this with this
      omega
    exact qq none _ (.inr ⟨gd, .inl ⟨h4, rfl⟩⟩) le2
  · have h4 : ws.length ≠ 4 := fun e => c (by rw [e]; rfl)
    refine ⟨_, rfl, dw, _, rfl, .inl (.of e2), _, _, rfl, ?_⟩
    rw [List.length_map]
    have fin := qq (some (min 4 ws.length)) _ (.inr ⟨gd, .inr ⟨h4, rfl⟩⟩) le2
    have e : (if ((ws.length : Nat) : Int) < 4 then ((ws.length : Nat) : Int) else 4) = ((min 4 ws.length : Nat) : Int) := by
      split <;> omega
    show Q (.int (if ((ws.length : Nat) : Int) < 4 then ((ws.length : Nat) : Int) else 4)) H2
    rw [e]
    exact fin
def sp_bent : Sp := fun vs H Q _ => ∃ (d dl p : Addr) (n : Int) (ws : List V), vs = [.ref d, .ref p] ∧ IsPen H d dl n ∧ n ≤ 900000000 ∧ H p = some (.lst ws) ∧ ws.length ≤ 20 ∧ StrL 5 ws ∧
  ∀ q ws' H', LeX d H H' → IsPen H' d dl (n + 3) → H' q = some (.lst ws') → ws'.length ≤ ws.length + 1 → StrL 5 ws' → Q (.ref q) H'
theorem c_bent (T : Txt K mg) (F : DefOf K mg "_law_bent" s__law_bent P__law_bent) (C__law_draw : Cal P w K mg base 1 "_law_draw" sp_draw []) (C__law_pick : Cal P w K mg base 2 "_law_pick" sp_pick []) : Cal P w K mg base 3 "_law_bent" sp_bent [] := by
  obtain ⟨f, fd, F, B⟩ := F
  refine cal0 F B .nil sc__law_bent (fun vs H Q E h => by obtain ⟨_, _, _, _, _, rfl, _⟩ := h; rfl) (fun cdv A outer s H vs Q E hr h => ?_)
  obtain ⟨d, dl, p, n, ws, rfl, pn, n1, hp, wl, sw, qq⟩ := h
  have nd := sc__law_bent.nd
  refine ⟨_, (pss_cons (ps_par (i := 2) (j := 3) (by rfl) nd rfl rfl (by decide) rfl rfl (pa_cons (pe_c C__law_draw hr (by decide) rfl (pa_cons (pv 0) (pa_cons (pe_op op_add (pe_callB call_len_seq (by rfl) T.b_len (by decide +kernel) (pa_cons (pv 1) pa_nil)) pe_int) pa_nil))) (pa_cons (pe_c C__law_draw hr (by decide) rfl (pa_cons (pv 0) (pa_cons pe_int pa_nil))) pa_nil)) (by rfl))
      (pss_cons (ps_set (i := 4) nd rfl (Or.inl rfl) (pe_lst (pa_cons pe_str (pa_cons pe_str (pa_cons pe_str (pa_cons pe_str (pa_cons pe_str (pa_cons pe_str (pa_cons pe_str (pa_cons pe_str (pa_cons pe_str (pa_cons pe_str (pa_cons pe_str (pa_cons pe_str (pa_cons pe_str (pa_cons pe_str (pa_cons pe_str (pa_cons pe_str (pa_cons pe_str pa_nil)))))))))))))))))))
      (pss_cons (ps_set (i := 5) nd rfl (Or.inl rfl) (pe_c C__law_pick hr (by decide) rfl (pa_cons (pv 0) (pa_cons (pv 4) pa_nil))))
      (pss_cons (ps_if (pt_cmpR op_eq (pv 3) pe_int (nomark _)) (pss_one (ps_ret (pe_op op_cat (pe_slice sl_list (pv 1) po_none (po_some (pv 2))) (pe_slice sl_list (pv 1) (po_some (pe_op op_add (pv 2) pe_int)) po_none)))) pss_nil)
      (pss_cons (ps_if (pt_cmpR op_eq (pv 3) pe_int (nomark _)) (pss_one (ps_ret (pe_op op_cat (pe_op op_cat (pe_slice sl_list (pv 1) po_none (po_some (pv 2))) (pe_lst (pa_cons (pv 5) pa_nil))) (pe_slice sl_list (pv 1) (po_some (pv 2)) po_none)))) pss_nil)
      (pss_one (ps_ret (pe_op op_cat (pe_op op_cat (pe_slice sl_list (pv 1) po_none (po_some (pv 2))) (pe_lst (pa_cons (pv 5) pa_nil))) (pe_slice sl_list (pv 1) (po_some (pe_op op_add (pv 2) pe_int)) po_none))))))))), ?_⟩
  have lg : ∀ x : Int, 0 < x → x < 100000000 → x.natAbs.log2 < 9000 := fun x h0 h => Nat.lt_trans (log_lt (by omega)) (by decide)
  refine ⟨_, rfl, _, rfl, p, ws, rfl, .inl (.of hp), _, _, rfl, rfl, d, dl, _, n, rfl, pn, by omega, by omega, lg _ (by omega) (by omega), fun r H1 l1 p1 r0 r1 => ?_⟩
  refine ⟨_, rfl, d, dl, 5, _, rfl, p1, by omega, by decide, lg 5 (by decide) (by decide), fun way H2 l2 p2 w0 w1 => ?_⟩
  refine ⟨_, _, rfl, ?_⟩
  refine ⟨le_szl 17 (by decide), fun q nq => ?_⟩
  have pd : p ≠ d := fun e => by
    obtain ⟨kvs, z⟩ := pn.dict
    rw [← e, hp] at z; cases z
  have hp2 := l2 _ _ pd (l1 _ _ pd hp)
  have m1 := Le.new (H := H2) (o := .lst [V.str "", .str "2", .str "-", .str "0", .str "1", .str "-0", .str "00", .str "01", .str "-7", .str "+3", .str "x", .str "101", .str "1-", .str "0 ", .str "12a", .str "--1", .str "3"]) nq
  refine ⟨_, rfl, _, rfl, d, dl, _, _, rfl, p2.le m1, by omega, .inr ⟨q, _, rfl, upd_self, by decide, by decide, fun v H3 l3 p3 hv => ?_⟩⟩
  obtain ⟨odd, rfl, hodd⟩ : ∃ odd : Str, v = .str odd ∧ odd.length ≤ 5 := by
    have key : ∀ z ∈ ([V.str "", .str "2", .str "-", .str "0", .str "1", .str "-0", .str "00", .str "01", .str "-7", .str "+3", .str "x", .str "101", .str "1-", .str "0 ", .str "12a", .str "--1", .str "3"] : List V), (match z with | .str w => decide (w.length ≤ 5) | _ => false) = true := by decide +kernel
    have := key v hv
    cases v with
    | str w => exact ⟨w, rfl, of_decide_eq_true this⟩
    | _ => cases this
  have hp3 := l3 _ _ pd (m1 _ _ hp2)
  have le3 : LeX d H H3 := ((l1.tr l2).tr m1.x).tr l3
  have pen3 : IsPen H3 d dl (n + 3) := p3.mono (by omega)
  have cl : ∀ lo hi, (cutV ws lo hi).length ≤ 20 := fun lo hi => Nat.le_trans (cutV_length ws lo hi) wl
  have rr : ∃ k : Nat, r = (k : Int) ∧ k ≤ ws.length := ⟨r.toNat, by omega, by omega⟩
  obtain ⟨k, rfl, kl⟩ := rr
  have c1 : (cutV ws none (some (k : Int))).length = k := by
    unfold cutV
    rw [HT.sIx_none, HT.sIx_nat, List.drop_zero, Nat.sub_zero, List.length_take]
    omega
  have c2 : (cutV ws (some (k : Int)) none).length = ws.length - k := by
    unfold cutV
    rw [HT.sIx_none, HT.sIx_nat, List.length_take, List.length_drop]
    omega
  have c3 : (cutV ws (some ((k : Int) + 1)) none).length ≤ ws.length - k := by
    unfold cutV
    rw [HT.sIx_none, show ((k : Int) + 1) = ((k + 1 : Nat) : Int) by omega, HT.sIx_nat, List.length_take, List.length_drop]
    omega
  have s1 := sw.cut none (some (k : Int))
  have s2 := sw.cut (some (k : Int)) none
  have s3 := sw.cut (some ((k : Int) + 1)) none
  refine ⟨_, rfl, rfl, _, rfl, ?_⟩
  refine ite2 (fun c => ?_) (fun c => ?_)
  · refine ⟨_, rfl, _, rfl, _, rfl, p, ws, rfl, .of hp3, fun q1 nq1 => ?_⟩
    have m2 := Le.new (H := H3) (o := .lst (cutV ws none (some (k : Int)))) nq1
    refine ⟨_, rfl, _, rfl, _, _, rfl, rfl, _, rfl, p, ws, rfl, .of (m2 _ _ hp3), fun q2 nq2 => ?_⟩
    have m3 := Le.new (o := .lst (cutV ws (some ((k : Int) + 1)) none)) nq2
    refine ⟨q1, q2, _, _, rfl, rfl, m3 _ _ upd_self, upd_self, le_szl _ (by omega), fun x nx => ?_⟩
    have m4 := Le.new (o := .lst (cutV ws none (some (k : Int)) ++ cutV ws (some ((k : Int) + 1)) none)) nx
    exact qq x _ _ (le3.tr ((m2.trans m3).trans m4).x) (pen3.le ((m2.trans m3).trans m4)) upd_self (by rw [List.length_append]; omega) (s1.app s3)
  refine ⟨_, rfl, rfl, _, rfl, ?_⟩
  have so := StrL.one hodd
  refine ite2 (fun c5 => ?_) (fun c5 => ?_)
  · refine ⟨_, rfl, _, rfl, _, rfl, p, ws, rfl, .of hp3, fun q1 nq1 => ?_⟩
    have m2 := Le.new (H := H3) (o := .lst (cutV ws none (some (k : Int)))) nq1
    refine ⟨_, rfl, le_szl 1 (by decide), fun q2 nq2 => ?_⟩
    have m3 := Le.new (o := .lst [V.str odd]) nq2
    refine ⟨q1, q2, _, _, rfl, rfl, m3 _ _ upd_self, upd_self, le_szl _ (by rw [c1]; simp; omega), fun q3 nq3 => ?_⟩
    have m4 := Le.new (o := .lst (cutV ws none (some (k : Int)) ++ [V.str odd])) nq3
    refine ⟨_, rfl, _, rfl, _, rfl, p, ws, rfl, .of (m4 _ _ (m3 _ _ (m2 _ _ hp3))), fun q4 nq4 => ?_⟩
    have m5 := Le.new (o := .lst (cutV ws (some (k : Int)) none)) nq4
    refine ⟨q3, q4, _, _, rfl, rfl, m5 _ _ upd_self, upd_self, le_szl _ (by rw [List.length_append, c1, c2]; simp; omega), fun x nx => ?_⟩
    have m6 := Le.new (o := .lst (cutV ws none (some (k : Int)) ++ [V.str odd] ++ cutV ws (some (k : Int)) none)) nx
    have mm := (((m2.trans m3).trans m4).trans m5).trans m6
    exact qq x _ _ (le3.tr mm.x) (pen3.le mm) upd_self (by rw [List.length_append, List.length_append, c1, c2]; simp; omega) ((s1.app so).app s2)
  · refine ⟨_, rfl, _, rfl, _, rfl, p, ws, rfl, .of hp3, fun q1 nq1 => ?_⟩
    have m2 := Le.new (H := H3) (o := .lst (cutV ws none (some (k : Int)))) nq1
    refine ⟨_, rfl, le_szl 1 (by decide), fun q2 nq2 => ?_⟩
    have m3 := Le.new (o := .lst [V.str odd]) nq2
    refine ⟨q1, q2, _, _, rfl, rfl, m3 _ _ upd_self, upd_self, le_szl _ (by rw [c1]; simp; omega), fun q3 nq3 => ?_⟩
    have m4 := Le.new (o := .lst (cutV ws none (some (k : Int)) ++ [V.str odd])) nq3
    refine ⟨_, rfl, _, rfl, _, _, rfl, rfl, _, rfl, p, ws, rfl, .of (m4 _ _ (m3 _ _ (m2 _ _ hp3))), fun q4 nq4 => ?_⟩
    have m5 := Le.new (o := .lst (cutV ws (some ((k : Int) + 1)) none)) nq4
    refine ⟨q3, q4, _, _, rfl, rfl, m5 _ _ upd_self, upd_self, le_szl _ (by rw [List.length_append, c1]; simp; omega), fun x nx => ?_⟩
    have m6 := Le.new (o := .lst (cutV ws none (some (k : Int)) ++ [V.str odd] ++ cutV ws (some ((k : Int) + 1)) none)) nx
    have mm := (((m2.trans m3).trans m4).trans m5).trans m6
    exact qq x _ _ (le3.tr mm.x) (pen3.le mm) upd_self (by rw [List.length_append, List.length_append, c1]; simp; omega) ((s1.app so).app s3)
/-! ### what is caught -/
def sp_lread : Sp := fun vs H Q _ => ∃ z : Str, vs = [.str z] ∧ z.length ≤ 600 ∧ (∀ H', Due (wordsT z) none → Le H H' → Q .non H') ∧
  ∀ (i : Nat) p H', Due (wordsT z) (some i) → Le H H' → H' p = some (.tup [.int i, .bl true]) → Q (.ref p) H'
theorem c_lread {C CB CC ow : Addr} (T : Txt K mg) (D : DSC K mg C) (EC : ErrR K mg CB CC ow) (F : DefOf K mg "_law_read" s__law_read P__law_read) (KX_DaySet_read : CMtX P w K mg base 6 C "read" (sp_readX C CB)) : Cal P w K mg base 7 "_law_read" sp_lread [] := by
  obtain ⟨f, fd, F, B⟩ := F
  refine cal0 F B .nil sc__law_read (fun vs H Q E h => by obtain ⟨_, rfl, _⟩ := h; rfl) (fun cdv A outer s H vs Q E hr h => ?_)
  obtain ⟨z, rfl, hz, q0, q1⟩ := h
  have nd := sc__law_read.nd
  refine ⟨_, (pss_cons (ps_try_as (i := 1) rfl rfl nd rfl rfl ⟨rfl, by decide, .inl EC.m_BadDays⟩ takes0 (fun W pn xe tk _ => (pss_one (ps_expr (pe_cmS KX_DaySet_read hr (by decide) tk (pe_gc rfl D.g) (pa_cons (pv 0) pa_nil))))) (fun a oe cls d pn hz hf => (pss_one (ps_ret (pe_tup (pa_cons (pe_xfS EC.xf_BadDays EC.n_BadDays_index hz hf (pv 1)) (pa_cons (pe_and (pe_callB (call_isS hz hf) (by rfl) T.b_isinstance (by decide +kernel) (pa_cons (pv 1) (pa_cons (pe_gc rfl EC.g_OneWayError) pa_nil))) (pe_one (pe_callB (call_isS hz hf) (by rfl) T.b_isinstance (by decide +kernel) (pa_cons (pv 1) (pa_cons (pe_bltn (v := .ty "ValueError") (by rfl) EC.ve PyProof.Rows.Boot.«ValueError» rfl) pa_nil))))) pa_nil)))))))
      (pss_one (ps_ret pe_non))), ?_⟩
  refine ⟨rfl, _, rfl, z, rfl, hz, fun p H' due le => q0 H' due le, fun i H' d due le hd e => ?_⟩
  refine ⟨true, EC.xB, fun _ a ha => ?_, fun h => nomatch h⟩
  refine ⟨_, rfl, rfl, rfl, d, _, _, rfl, e, rfl, ?_⟩
  refine ⟨_, rfl, CB, _, _, _, rfl, rfl, fun dd h => by cases h; exact ⟨_, e⟩, EC.ecB, relR, EC.kB, ?_⟩
  refine ⟨_, rfl, iteT ?_⟩
  refine ⟨_, rfl, CB, _, _, _, rfl, rfl, fun dd h => by cases h; exact ⟨_, e⟩, EC.ecB, relT, EC.vB, ?_⟩
  refine ⟨le_szl 2 (by decide), fun t nt => ?_⟩
  exact q1 i t _ due (le.trans (Le.new nt)) upd_self
def sp_lturned : Sp := fun vs H Q _ => ∃ n p : Int, vs = [.int n, .int p] ∧ p.natAbs.log2 < 1900 ∧ (∀ H', 1 ≤ p → p ≤ 60 → Le H H' → Q .non H') ∧
  ∀ q H', ¬ (1 ≤ p ∧ p ≤ 60) → Le H H' → H' q = some (.tup [.int p, .bl true]) → Q (.ref q) H'
theorem c_lturned {C CB CC ow : Addr} (T : Txt K mg) (D : DSC K mg C) (EC : ErrR K mg CB CC ow) (F : DefOf K mg "_law_turned" s__law_turned P__law_turned) (KX_DaySet_turns : CMtX P w K mg base 6 C "turns" (sp_turnsX C CC)) : Cal P w K mg base 7 "_law_turned" sp_lturned [] := by
  obtain ⟨f, fd, F, B⟩ := F
  refine cal0 F B .nil sc__law_turned (fun vs H Q E h => by obtain ⟨_, _, rfl, _⟩ := h; rfl) (fun cdv A outer s H vs Q E hr h => ?_)
  obtain ⟨n, p, rfl, hp, q0, q1⟩ := h
  have nd := sc__law_turned.nd
  refine ⟨_, (pss_cons (ps_try_as (i := 2) rfl rfl nd rfl rfl ⟨rfl, by decide, .inl EC.m_BadCount⟩ takes0 (fun W pn xe tk _ => (pss_one (ps_expr (pe_cmS KX_DaySet_turns hr (by decide) tk (pe_gc rfl D.g) (pa_cons (pv 0) (pa_cons (pv 1) pa_nil)))))) (fun a oe cls d pn hz hf => (pss_one (ps_ret (pe_tup (pa_cons (pe_xfS EC.xf_BadCount EC.n_BadCount_count hz hf (pv 2)) (pa_cons (pe_and (pe_callB (call_isS hz hf) (by rfl) T.b_isinstance (by decide +kernel) (pa_cons (pv 2) (pa_cons (pe_gc rfl EC.g_OneWayError) pa_nil))) (pe_one (pe_callB (call_isS hz hf) (by rfl) T.b_isinstance (by decide +kernel) (pa_cons (pv 2) (pa_cons (pe_bltn (v := .ty "ValueError") (by rfl) EC.ve PyProof.Rows.Boot.«ValueError» rfl) pa_nil))))) pa_nil)))))))
      (pss_one (ps_ret pe_non))), ?_⟩
  refine ⟨rfl, _, rfl, _, rfl, n, p, rfl, hp, fun q H' h1 h2 le => q0 H' h1 h2 le, fun H' d hb le hd e => ?_⟩
  refine ⟨true, EC.xC, fun _ a ha => ?_, fun h => nomatch h⟩
  refine ⟨_, rfl, rfl, rfl, d, _, _, rfl, e, rfl, ?_⟩
  refine ⟨_, rfl, CC, _, _, _, rfl, rfl, fun dd h => by cases h; exact ⟨_, e⟩, EC.ecC, relR, EC.kC, ?_⟩
  refine ⟨_, rfl, iteT ?_⟩
  refine ⟨_, rfl, CC, _, _, _, rfl, rfl, fun dd h => by cases h; exact ⟨_, e⟩, EC.ecC, relT, EC.vC, ?_⟩
  refine ⟨le_szl 2 (by decide), fun t nt => ?_⟩
  exact q1 t _ hb (le.trans (Le.new nt)) upd_self
end
end Od
end
section
set_option Elab.async false
set_option linter.all false
set_option maxRecDepth 100000
set_option maxHeartbeats 2000000
set_option autoImplicit false
/-! law k02: forms refused -/
namespace Od
open PySem PySem.Spec PyProof.Rows L2 C8 Day
abbrev s_law : Stmt := top 39
abbrev N_law : List Str := ["_law_script", "_law_pen_here", "_law_turn", "_law_words", "_law_change", "_law_text", "_law_due", "_law_p"]
abbrev P_law : List Str := ["_law_script"]
theorem sc_law : FnScope N_law P_law (C8.fnScope s_law) := fnScope_by (by decide +kernel)
theorem due_ex (ws : List Str) : ∃ o, Due ws o := by
  by_cases h : ∃ i z, i < 4 ∧ ws[i]? = some z ∧ ¬ GoodW i z
  · have key : ∀ n, (∃ i z, i ≤ n ∧ i < 4 ∧ ws[i]? = some z ∧ ¬ GoodW i z) → ∃ o, Due ws o := by
      intro n
      induction n with
      | zero =>
        rintro ⟨i, z, i0, i4, hi, bi⟩
        exact ⟨some i, .inl ⟨i, z, rfl, i4, hi, bi, fun j hj => absurd hj (by omega)⟩⟩
      | succ n ih =>
        rintro ⟨i, z, i0, i4, hi, bi⟩
        by_cases c : ∃ i z, i ≤ n ∧ i < 4 ∧ ws[i]? = some z ∧ ¬ GoodW i z
        · exact ih c
        · refine ⟨some i, .inl ⟨i, z, rfl, i4, hi, bi, fun j hj y hy => ?_⟩⟩
          by_cases g : GoodW j y
          · exact g
          · exact absurd ⟨j, y, by omega, by omega, hy, g⟩ c
    obtain ⟨i, z, i4, hi, bi⟩ := h
    exact key i ⟨i, z, Nat.le_refl _, i4, hi, bi⟩
  · have g : ∀ j, j < 4 → ∀ y, ws[j]? = some y → GoodW j y := fun j hj y hy => by
      by_cases g : GoodW j y
      · exact g
      · exact absurd ⟨j, y, hj, hy, g⟩ h
    by_cases c : ws.length = 4
    · exact ⟨none, .inr ⟨g, .inl ⟨c, rfl⟩⟩⟩
    · exact ⟨_, .inr ⟨g, .inr ⟨c, rfl⟩⟩⟩
theorem joinR_len (n : Nat) : ∀ ws : List Str, (∀ w ∈ ws, w.length ≤ n) → (ws.flatMap fun z => (" " : Str).cps.toList ++ z.cps.toList).length ≤ ws.length * (n + 1)
  | [], _ => by simp
  | w :: ws, h => by
    have ih := joinR_len n ws fun x hx => h x (List.mem_cons_of_mem _ hx)
    have h1 := h w List.mem_cons_self
    rw [← cps_len] at h1
    have h2 : (" " : Str).cps.toList.length = 1 := by decide +kernel
    rw [List.flatMap_cons, List.length_append, List.length_append, List.length_cons, Nat.succ_mul, h2]
    omega
theorem joinS_len {n : Nat} {ws : List Str} (h : ∀ w ∈ ws, w.length ≤ n) : (Txt.join (" " : Str) ws).length ≤ ws.length * (n + 1) := by
  cases ws with
  | nil =>
    have : (Txt.join (" " : Str) []).length = 0 := by decide +kernel
    rw [this]
    exact Nat.zero_le _
  | cons w ws =>
    rw [← cps_len, joinT_tl, List.length_append]
    have h1 := h w List.mem_cons_self
    rw [← cps_len] at h1
    have h2 := joinR_len n ws fun x hx => h x (List.mem_cons_of_mem _ hx)
    rw [List.length_cons, Nat.succ_mul]
    omega
theorem sum_le {n : Nat} : ∀ ws : List Str, (∀ w ∈ ws, w.length ≤ n) → (ws.map (·.length)).sum ≤ ws.length * n
  | [], _ => by simp
  | w :: ws, h => by
    have ih := sum_le ws fun x hx => h x (List.mem_cons_of_mem _ hx)
    have h1 := h w List.mem_cons_self
    rw [List.map_cons, List.sum_cons, List.length_cons, Nat.succ_mul]
    omega
theorem shaped2 (i : Int) : SeqAt.shaped (.tuple [.int i, .bool true]) = true := by
  rfl
theorem eqv2 (i : Int) : PyData.eqv (.tuple [.int i, .bool true]) (.tuple [.int i, .bool true]) = true := by
  simp [PyData.eqv, PyData.eqvAll]
section
variable {P : Program} {w : World} {K : PySem.W.Frag} {mg : Str → Option Value} {base : Heap} {CB CC ow : Addr}
def sp_law : Sp := fun vs H Q _ => ∃ (a : Addr) (xs : List Int), vs = [.ref a] ∧ SqL K H a (xs.map V.int) ∧ xs.length ≤ 63 ∧ ∀ H', Q (.bl true) H'
theorem ok_law {f : Addr} {fd : FuncData} (T : Txt K mg) (F : C8.Fun K "law" "law" s_law f fd) (C__law_pen : Cal P w K mg base 1 "_law_pen" (sp_pen (K := K)) []) (C__law_draw : Cal P w K mg base 1 "_law_draw" sp_draw []) (C__law_pick : Cal P w K mg base 2 "_law_pick" sp_pick [])
    (C__law_form : Cal P w K mg base 3 "_law_form" sp_form []) (C__law_bent : Cal P w K mg base 3 "_law_bent" sp_bent []) (C__law_wrong : Cal P w K mg base 2 "_law_wrong" sp_wrong []) (C__law_read : Cal P w K mg base 7 "_law_read" sp_lread []) (C__law_turned : Cal P w K mg base 7 "_law_turned" sp_lturned []) :
    FnOk P w K mg base C8.CX0 8 f fd P_law (sp_law (K := K)) := by
  refine fn0 F sc_law (fun vs H Q E h => by obtain ⟨_, _, rfl, _⟩ := h; rfl) (fun cdv A outer s H vs Q E hr h => ?_)
  obtain ⟨a, xs, rfl, hs, hx, qq⟩ := h
  have nd := sc_law.nd
  refine ⟨_, (pss_cons (ps_set (i := 1) nd rfl (Or.inl rfl) (pe_c C__law_pen hr (by decide) rfl (pa_cons (pv 0) pa_nil)))
      (C8.pss_cut (ps_for PassesOwn.never rfl (pi_range1 (by rfl) T.b_range (pa_cons pe_int pa_nil)) (pg_name (i := 2) nd rfl (Or.inl rfl)) (pss_cons (ps_set (i := 3) nd rfl (Or.inl rfl) (pe_c C__law_form hr (by decide) rfl (pa_cons (pv 1) (pa_cons pe_int pa_nil))))
      (C8.pss_cut (ps_for PassesOwn.never rfl (pi_range1 (by rfl) T.b_range (pa_cons (pe_c C__law_draw hr (by decide) rfl (pa_cons (pv 1) (pa_cons pe_int pa_nil))) pa_nil)) (pg_name (i := 4) nd rfl (Or.inl rfl)) (pss_one (ps_set (i := 3) nd rfl (Or.inl rfl) (pe_c C__law_bent hr (by decide) rfl (pa_cons (pv 1) (pa_cons (pv 3) pa_nil))))))
      (C8.pss_cut (ps_for PassesOwn.never rfl (pi_tup (pe_tup (pa_cons (pe_join pe_str (pv 3)) (pa_cons pe_str pa_nil)))) (pg_name (i := 5) nd rfl (Or.inl rfl)) (pss_cons (ps_set (i := 6) nd rfl (Or.inl rfl) (pe_c C__law_wrong hr (by decide) rfl (pa_cons (pv 5) pa_nil)))
      (pss_one (ps_if (pt_cmpR (op_neD hr.units) (pe_c C__law_read hr (by decide) rfl (pa_cons (pv 5) pa_nil)) (pe_ifExp (pt_cmpR op_notN (pv 6) pe_non (nomark _)) (pe_tup (pa_cons (pv 6) (pa_cons pe_bl pa_nil))) pe_non) (nomark _)) (pss_one (ps_ret pe_bl)) pss_nil))))
      (pss_cons (ps_set (i := 7) nd rfl (Or.inl rfl) (pe_c C__law_pick hr (by decide) rfl (pa_cons (pv 1) (pa_cons (pe_lst (pa_cons pe_int (pa_cons (pe_un un_neg pe_int) (pa_cons pe_int (pa_cons pe_int (pa_cons pe_int (pa_cons pe_int (pa_cons (pe_un un_neg pe_int) (pa_cons (pe_op op_pow pe_int pe_int) (pa_cons (pe_op op_add pe_int (pe_c C__law_draw hr (by decide) rfl (pa_cons (pv 1) (pa_cons pe_int pa_nil)))) pa_nil)))))))))) pa_nil))))
      (pss_one (ps_if (pt_cmpR (op_neD hr.units) (pe_c C__law_turned hr (by decide) rfl (pa_cons (pe_c C__law_draw hr (by decide) rfl (pa_cons (pv 1) (pa_cons pe_int pa_nil))) (pa_cons (pv 7) pa_nil))) (pe_ifExp (pt_chain op_le op_le pe_int (pv 7) pe_int) pe_non (pe_tup (pa_cons (pv 7) (pa_cons pe_bl pa_nil)))) (nomark _)) (pss_one (ps_ret pe_bl)) pss_nil)))))))
      (pss_one (ps_ret pe_bl)))), ?_⟩
  have lg : ∀ x : Int, 0 < x → x < 100000000 → x.natAbs.log2 < 9000 := fun x h0 h => Nat.lt_trans (log_lt (by omega)) (by decide)
  refine ⟨_, rfl, a, xs, rfl, hs, hx, fun d dl H1 l1 hd hdl p1 => ?_⟩
  refine ⟨fun _ _ => True, ?_, fun _ _ _ => qq _⟩
  refine ⟨_, rfl, by decide, by decide, ?_⟩
  refine for_range (n := 12) (fun i σ' H' => IsPen H' d dl (i * 1000) ∧ ∃ x2 x3 x4 x5 x6 x7, σ' = [some (.ref a), some (.ref d), x2, x3, x4, x5, x6, x7]) ⟨p1.mono (by decide), none, none, none, none, none, none, rfl⟩ ?_ (fun _ _ _ => trivial)
  rintro i σ Ha hi ⟨pa, x2, x3, x4, x5, x6, x7, rfl⟩
  refine ⟨_, rfl, d, dl, i * 1000, 5, rfl, pa, by omega, by decide, by decide, fun l k m r q H2 l2 p2 nq l0 r0 ll lr lm k0 k1 e2 => ?_⟩
  have sw0 : StrL 5 ((words4 l k m r).map V.str) := by
    intro v hv
    obtain ⟨y, hy, rfl⟩ := List.mem_map.mp hv
    refine ⟨y, rfl, ?_⟩
    simp only [words4, List.mem_cons, List.not_mem_nil, or_false] at hy
    rcases hy with rfl | rfl | rfl | rfl
    · rw [rowS_len]; omega
    · have := numS_len (n := k) (k := 2) (by decide) (by omega); omega
    · unfold midS; split
      · decide +kernel
      · rw [rowS_len]; omega
    · rw [rowS_len]; omega
  -- the changes
  refine ⟨fun σ' H' => IsPen H' d dl (i * 1000 + 100) ∧ ∃ (q : Addr) (ws : List V) (x4 : Option V), H' q = some (.lst ws) ∧ ws.length ≤ 10 ∧ StrL 5 ws ∧ σ' = [some (.ref a), some (.ref d), some (.int (0 + (i : Nat))), some (.ref q), x4, x5, x6, x7], ?_, ?_⟩
  · refine ⟨_, rfl, d, dl, 3, _, rfl, p2, by omega, by decide, lg 3 (by decide) (by decide), fun ch H3 l3 p3 c0 c1 => ?_⟩
    refine ⟨_, rfl, by omega, by omega, ?_⟩
    have qd : q ≠ d := fun e => by
      obtain ⟨kvs, z⟩ := p2.dict
      rw [← e, e2] at z; cases z
    refine for_it walk_range (fun j σ' H' => IsPen H' d dl (i * 1000 + 26 + (j : Nat) * 3) ∧ ∃ (q : Addr) (ws : List V) (x4 : Option V), H' q = some (.lst ws) ∧ ws.length ≤ 4 + j ∧ StrL 5 ws ∧ σ' = [some (.ref a), some (.ref d), some (.int (0 + (i : Nat))), some (.ref q), x4, x5, x6, x7]) ?_ (fun _ _ _ _ _ => trivial) ?_ ?_
    · exact ⟨p3.mono (by simp; omega), q, _, x4, l3 _ _ qd e2, by simp [words4], sw0, rfl⟩
    · rintro j x σ Hb Hc hj ⟨pb, q, ws, x4, eq, wl, sw, rfl⟩ ⟨rfl, rfl⟩
      have j3 : j < 3 := by omega
      refine ⟨_, rfl, _, rfl, d, dl, q, _, ws, rfl, pb, by omega, eq, by omega, sw, fun q' ws' H4 l4 p4 e4 wl' sw' => ?_⟩
      exact ⟨p4.mono (by rw [Int.natCast_add]; simp; omega), q', ws', _, e4, by omega, sw', rfl⟩
    · rintro σ' H' ⟨p', q, ws, x4, e, wl, sw, rfl⟩
      exact ⟨p'.mono (by omega), q, ws, x4, e, by omega, sw, rfl⟩
  rintro σ H3 ⟨p3, q, wv, x4, e3, wl, sw, rfl⟩
  obtain ⟨ws, rfl, hw⟩ := sw.row
  rw [List.length_map] at wl
  -- the texts
  refine ⟨fun σ' H' => IsPen H' d dl (i * 1000 + 100) ∧ ∃ x5 x6, σ' = [some (.ref a), some (.ref d), some (.int (0 + (i : Nat))), some (.ref q), x4, x5, x6, x7], ?_, ?_⟩
  · have jl := joinS_len hw
    have sl := sum_le ws hw
    refine ⟨⟨_, rfl⟩, _, rfl, _, q, ws, rfl, rfl, .inl (.of e3), ?_, ?_⟩
    · have : (" " : Str).length = 1 := by decide +kernel
      rw [this]
      omega
    refine ⟨le_szl 2 (by decide), fun t nt => ?_⟩
    have mt := Le.new (H := H3) (o := .tup [V.str (Txt.join (" " : Str) ws), .str ""]) nt
    refine ⟨t, rfl, ⟨_, .of upd_self⟩, ?_⟩
    refine for_tup (xs := [V.str (Txt.join (" " : Str) ws), .str ""]) (fun j σ' H' => H' t = some (.tup [V.str (Txt.join (" " : Str) ws), .str ""]) ∧ IsPen H' d dl (i * 1000 + 100) ∧ ∃ x5 x6, σ' = [some (.ref a), some (.ref d), some (.int (0 + (i : Nat))), some (.ref q), x4, x5, x6, x7])
      ⟨upd_self, p3.le mt, x5, x6, rfl⟩ (fun _ _ _ _ h => .of h.1) ?_ (fun σ H h => h.2)
    rintro j x σ H4 hx ⟨et, p4, x5, x6, rfl⟩
    obtain ⟨z, rfl, hz⟩ : ∃ z : Str, x = .str z ∧ z.length ≤ 600 := by
      match j, hx with
      | 0, hx => cases hx; exact ⟨_, rfl, by omega⟩
      | 1, hx => cases hx; exact ⟨_, rfl, by decide +kernel⟩
      | j + 2, hx => simp at hx
    obtain ⟨o, due⟩ := due_ex (wordsT z)
    refine ⟨_, rfl, z, rfl, hz, fun o' H5 due' l5 => ?_⟩
    obtain rfl := due_fun due due'
    refine ⟨_, rfl, z, rfl, hz, fun H6 due2 l6 => ?_, fun k p H6 due2 l6 e6 => ?_⟩
    · have oe := due_fun due due2
      subst oe
      refine ⟨_, rfl, rfl, _, rfl, ?_⟩
      refine iteF ?_
      refine ⟨_, _, .non, .non, by decide +kernel, by decide +kernel, _, rfl, ?_⟩
      refine iteF ?_
      have l46 := l5.trans l6
      exact ⟨l46 _ _ et, p4.le l46, _, _, rfl⟩
    · have oe := due_fun due due2
      subst oe
      refine ⟨_, rfl, rfl, _, rfl, ?_⟩
      refine iteT ?_
      refine ⟨_, rfl, le_szl 2 (by decide), fun t2 nt2 => ?_⟩
      have m6 := Le.new (H := H6) (o := .tup [V.int (k : Nat), .bl true]) nt2
      refine ⟨_, _, .tup (.of (m6 _ _ e6)) (.cons (.int _) (.cons (.bl _) .nil)), .tup (.of upd_self) (.cons (.int _) (.cons (.bl _) .nil)), shaped2 _, shaped2 _, _, rfl, ?_⟩
      rw [eqv2]
      refine iteF ?_
      have l46 := (l5.trans l6).trans m6
      exact ⟨l46 _ _ et, p4.le l46, _, _, rfl⟩
  rintro σ H4 ⟨p4, x5, x6, rfl⟩
  refine ⟨_, rfl, _, rfl, _, rfl, _, _, rfl, rfl, ⟨by decide, by decide, by decide⟩, _, rfl, d, dl, 60, _, rfl, p4, by omega, by decide, lg 60 (by decide) (by decide), fun r1 H5 l5 p5 r10 r11 => ?_⟩
  refine ⟨_, _, rfl, rfl, le_szl 9 (by decide), fun t nt => ?_⟩
  have mt := Le.new (H := H5) (o := .lst [V.int 0, .int (-1), .int 61, .int 1, .int 60, .int 62, .int (-60), .int (10 ^ 20), .int (1 + r1)]) nt
  refine ⟨d, dl, _, .ref t, rfl, p5.le mt, by omega, .inr ⟨t, _, rfl, upd_self, by simp, by simp, fun v H6 l6 p6 hv => ?_⟩⟩
  obtain ⟨p, rfl, hp⟩ : ∃ p : Int, v = .int p ∧ p.natAbs < 10 ^ 21 := by
    simp only [List.mem_cons, List.not_mem_nil, or_false] at hv
    rcases hv with rfl | rfl | rfl | rfl | rfl | rfl | rfl | rfl | rfl
    · exact ⟨_, rfl, by decide⟩
    · exact ⟨_, rfl, by decide⟩
    · exact ⟨_, rfl, by decide⟩
    · exact ⟨_, rfl, by decide⟩
    · exact ⟨_, rfl, by decide⟩
    · exact ⟨_, rfl, by decide⟩
    · exact ⟨_, rfl, by decide⟩
    · exact ⟨_, rfl, by decide⟩
    · exact ⟨_, rfl, by omega⟩
  have hlog : p.natAbs.log2 < 1900 := by
    by_cases c : p.natAbs = 0
    · rw [c]; decide
    · rw [Nat.log2_lt c]
      exact Nat.lt_of_lt_of_le (Nat.lt_of_lt_of_le hp (show 10 ^ 21 ≤ 2 ^ 100 by decide)) (Nat.pow_le_pow_right (by decide) (by decide))
  refine ⟨_, rfl, d, dl, 9, _, rfl, p6, by omega, by decide, lg 9 (by decide) (by decide), fun r2 H7 l7 p7 r20 r21 => ?_⟩
  refine ⟨_, rfl, r2, p, rfl, hlog, fun H8 h1 h2 l8 => ?_, fun q2 H8 hb l8 e8 => ?_⟩
  · refine ⟨_, rfl, _, _, rfl, rfl, _, rfl, ?_⟩
    rw [decide_eq_true h1]
    refine iteT ?_
    refine ⟨_, _, rfl, rfl, _, rfl, ?_⟩
    rw [decide_eq_true h2]
    refine iteT ?_
    refine ⟨_, _, .non, .non, by decide +kernel, by decide +kernel, _, rfl, ?_⟩
    refine iteF ?_
    exact ⟨(p7.le l8).mono (by rw [Int.natCast_add]; simp; omega), _, _, _, _, _, _, rfl⟩
  · have fin : ∀ t2, H8 t2 = none → (∃ d_1 e_1, Dp K (upd H8 t2 (.tup [V.int p, .bl true])) (.ref q2) d_1 ∧ Dp K (upd H8 t2 (.tup [V.int p, .bl true])) (.ref t2) e_1 ∧ SeqAt.shaped d_1 = true ∧ SeqAt.shaped e_1 = true ∧ PyData.eqv d_1 e_1 = true) ∧ IsPen (upd H8 t2 (.tup [V.int p, .bl true])) d dl ((i + 1 : Nat) * 1000) := fun t2 nt2 => by
      have m8 := Le.new (H := H8) (o := .tup [V.int p, .bl true]) nt2
      exact ⟨⟨_, _, .tup (.of (m8 _ _ e8)) (.cons (.int _) (.cons (.bl _) .nil)), .tup (.of upd_self) (.cons (.int _) (.cons (.bl _) .nil)), shaped2 _, shaped2 _, eqv2 _⟩, ((p7.le l8).le m8).mono (by rw [Int.natCast_add]; simp; omega)⟩
    refine ⟨_, rfl, _, _, rfl, rfl, _, rfl, ?_⟩
    refine ite2 (fun c => ?_) (fun c => ?_)
    · have c2 : ¬ p ≤ 60 := fun h => hb ⟨of_decide_eq_true c, h⟩
      refine ⟨_, _, rfl, rfl, _, rfl, ?_⟩
      rw [decide_eq_false c2]
      refine iteF ?_
      refine ⟨_, rfl, le_szl 2 (by decide), fun t2 nt2 => ?_⟩
      obtain ⟨⟨d1, d2, f1, f2, f3, f4, f5⟩, f6⟩ := fin t2 nt2
      refine ⟨d1, d2, f1, f2, f3, f4, _, rfl, ?_⟩
      rw [f5]
      exact iteF ⟨f6, _, _, _, _, _, _, rfl⟩
    · refine ⟨_, rfl, ?_⟩
      refine iteF ?_
      refine ⟨_, rfl, le_szl 2 (by decide), fun t2 nt2 => ?_⟩
      obtain ⟨⟨d1, d2, f1, f2, f3, f4, f5⟩, f6⟩ := fin t2 nt2
      refine ⟨d1, d2, f1, f2, f3, f4, _, rfl, ?_⟩
      rw [f5]
      refine iteF ?_
      exact ⟨f6, _, _, _, _, _, _, rfl⟩
end
end Od
end
set_option Elab.async false
set_option linter.all false
set_option maxRecDepth 100000
set_option maxHeartbeats 0
set_option autoImplicit false
namespace Od
open PySem PySem.Spec PyProof.Rows L2 He
abbrev faL : List Fa := [.glo "root_of", .glo "turned_row", .glo "bare_form", .glo "least_form", .glo "is_row", .glo "is_count", .glo "is_number", .glo "_law_pen", .glo "_law_draw", .glo "_law_pick", .glo "_law_signs", .glo "_law_form", .glo "_law_is_number", .glo "_law_wrong", .glo "_law_bent", .glo "_law_read", .glo "_law_turned", .mkr "DaySet", .glo "BadDays", .glo "BadCount", .free "super", .free "len", .free "abs", .free "int", .free "str", .free "min", .free "max", .free "range", .free "all", .free "any", .free "isinstance", .free "bool", .free "list", .free "enumerate", .free "sorted", .free "dict", .free "repr", .free "tuple", .free "zip", .free "sum", .free "reversed", .int "LONGEST_TURN" 60, .str "DIGITS" "0123456789", .cls "DaySet", .glo "DaySet", .noat "DaySet" "left", .noat "DaySet" "low", .noat "DaySet" "middle", .noat "DaySet" "right", .noat "DaySet" "high", .free "ValueError", .glo "OneWayError", .exm "BadDays" "BadDays" true, .exm "BadCount" "BadCount" true, .glo "law"]
abbrev exL (K : PySem.W.Frag) : List Bool := [crdB K "DaySet", clmB K "DaySet" "read", clmB K "DaySet" "turns", supB K "BadDays", initB K "BadDays", supB K "BadCount", initB K "BadCount", PySem.W.selfFirst K (ga K "DaySet"), eqO (PySem.W.findIn K (.ref (ga K "DaySet")) "__ne__") (some (some (.builtin "object.__ne__"))), decide (PySem.W.mroIn K (ga K "DaySet") (.type "object") = some true), eqO (PySem.W.findIn K (.ref (ga K "DaySet")) "__class__") (some (some (.builtin "object.__class__"))), eqO (PySem.W.specialIn K (.builtin "object.__class__") "__get__") (some (some (.builtin "getset_descriptor.__get__"))), decide (PySem.W.takesIn K (.builtin "object.__class__") = some true), decide (PySem.W.kitOne K (.ref (ga K "DaySet")) (.ref (ga K "DaySet")) = some true), decide (PySem.W.subIn K (.type "int") (.ref (ga K "DaySet")) = some false), eqO (PySem.W.findIn K (.ref (ga K "DaySet")) (dunderR "rshift")) (some none), eqO (PySem.W.findIn K (.ref (ga K "DaySet")) (dunderR "lshift")) (some none), eqO (PySem.W.findIn K (.type "int") (PySem.dunder "rshift")) (some (some (.builtin "int.__rshift__"))), eqO (PySem.W.findIn K (.type "int") (PySem.dunder "lshift")) (some (some (.builtin "int.__lshift__"))), eqO (PySem.W.findIn K (.type "int") (dunderR "rshift")) (some (some (.builtin "int.__rrshift__"))), eqO (PySem.W.findIn K (.type "int") (dunderR "lshift")) (some (some (.builtin "int.__rlshift__"))), eqO (PySem.W.findIn K (.ref (ga K "BadDays")) "index") (some none), eqO (PySem.W.findIn K (.ref (ga K "BadCount")) "count") (some none), decide (PySem.W.kitOne K (.ref (ga K "BadDays")) (.ref (ga K "OneWayError")) = some true), decide (PySem.W.kitOne K (.ref (ga K "BadCount")) (.ref (ga K "OneWayError")) = some true), decide (PySem.W.kitOne K (.ref (ga K "BadDays")) (.type "ValueError") = some true), decide (PySem.W.kitOne K (.ref (ga K "BadCount")) (.type "ValueError") = some true)]
def fnL : List DefE := [dG "root_of" s_root_of, dG "turned_row" s_turned_row, dG "bare_form" s_bare_form, dG "least_form" s_least_form, dG "is_row" s_is_row, dG "is_count" s_is_count, dG "is_number" s_is_number, dG "_law_pen" s__law_pen, dG "_law_draw" s__law_draw, dG "_law_pick" s__law_pick, dG "_law_signs" s__law_signs, dG "_law_form" s__law_form, dG "_law_is_number" s__law_is_number, dG "_law_wrong" s__law_wrong, dG "_law_bent" s__law_bent, dG "_law_read" s__law_read, dG "_law_turned" s__law_turned, dM "DaySet" "__init__" "DaySet.__init__" s_DaySet___init__, dC "DaySet" "read" "DaySet.read" s_DaySet_read, dC "DaySet" "turns" "DaySet.turns" s_DaySet_turns, dS "BadDays" "BadDays.__init__" s_BadDays___init__, dS "BadCount" "BadCount.__init__" s_BadCount___init__, dG "law" s_law]
abbrev moL : PySem.W.Frag → Bool := moF faL exL
abbrev RL : PySem.W.OpenRow := PySem.W.OpenLaw.row PySem.Challenge.rw_onewaydays_k02_forms_refused
abbrev hkL : PySem.W.Hook := hookE 6 moL fnL
def obL (s : PySem.W.SharedT) : AlE := obsEG 6 moL fnL (HandSHeadRun.getT s)
theorem obL_eq (s : PySem.W.SharedT) : obL s = hkL.obs s.abs := obsEG_eq (HandSHeadRun.getT_eq s)
def namesL : List Str := (["_wall", "__name__", "OneWayError", "BadDays", "BadCount", "DIGITS", "is_count", "is_number", "LONGEST_TURN", "divisor_of", "multiple_of", "root_of", "turned_row", "least_form", "bare_form", "is_row", "DaySet", "many_in", "set_of", "first_of_rests"] : List Str) ++ (["firsts_of", "begun_sums", "whole_rests", "sum_of", "star_of", "least_sums", "_law_pen", "_law_draw", "_law_pick", "_law_signs", "_law_form", "_law_is_number", "_law_wrong", "_law_bent", "_law_read", "_law_turned"] : List Str)
theorem runL (w : World) : HandSHeadRun.RunEq RL (PySem.W.view RL.prog [39]) hkL obL 12000 namesL w := by
  intro os
  kernel_rfl
section
variable {K : PySem.W.Frag} {h : Heap} {mg : Str → Option Value}
theorem h_F_root_of (X : K.In h) (G : h.Ns mainGlobals mg) (c : obsE moL fnL K = valE fnL) : DefOf K mg "root_of" s_root_of P_root_of := defOf_ X G (moF_fact (saysE_mo c) 0) (saysE_def c 0) (fun _ _ _ _ _ _ us hl => match us, hl with | [_], _ => rfl)
theorem h_F_turned_row (X : K.In h) (G : h.Ns mainGlobals mg) (c : obsE moL fnL K = valE fnL) : DefOf K mg "turned_row" s_turned_row P_turned_row := defOf_ X G (moF_fact (saysE_mo c) 1) (saysE_def c 1) (fun _ _ _ _ _ _ us hl => match us, hl with | [_, _], _ => rfl)
theorem h_F_bare_form (X : K.In h) (G : h.Ns mainGlobals mg) (c : obsE moL fnL K = valE fnL) : DefOf K mg "bare_form" s_bare_form P_bare_form := defOf_ X G (moF_fact (saysE_mo c) 2) (saysE_def c 2) (fun _ _ _ _ _ _ us hl => match us, hl with | [_, _, _], _ => rfl)
theorem h_F_least_form (X : K.In h) (G : h.Ns mainGlobals mg) (c : obsE moL fnL K = valE fnL) : DefOf K mg "least_form" s_least_form P_least_form := defOf_ X G (moF_fact (saysE_mo c) 3) (saysE_def c 3) (fun _ _ _ _ _ _ us hl => match us, hl with | [_, _, _, _], _ => rfl)
theorem h_F_is_row (X : K.In h) (G : h.Ns mainGlobals mg) (c : obsE moL fnL K = valE fnL) : DefOf K mg "is_row" s_is_row P_is_row := defOf_ X G (moF_fact (saysE_mo c) 4) (saysE_def c 4) (fun _ _ _ _ _ _ us hl => match us, hl with | [_], _ => rfl)
theorem h_F_is_count (X : K.In h) (G : h.Ns mainGlobals mg) (c : obsE moL fnL K = valE fnL) : DefOf K mg "is_count" s_is_count P_is_count := defOf_ X G (moF_fact (saysE_mo c) 5) (saysE_def c 5) (fun _ _ _ _ _ _ us hl => match us, hl with | [_], _ => rfl)
theorem h_F_is_number (X : K.In h) (G : h.Ns mainGlobals mg) (c : obsE moL fnL K = valE fnL) : DefOf K mg "is_number" s_is_number P_is_number := defOf_ X G (moF_fact (saysE_mo c) 6) (saysE_def c 6) (fun _ _ _ _ _ _ us hl => match us, hl with | [_], _ => rfl)
theorem h_F__law_pen (X : K.In h) (G : h.Ns mainGlobals mg) (c : obsE moL fnL K = valE fnL) : DefOf K mg "_law_pen" s__law_pen P__law_pen := defOf_ X G (moF_fact (saysE_mo c) 7) (saysE_def c 7) (fun _ _ _ _ _ _ us hl => match us, hl with | [_], _ => rfl)
theorem h_F__law_draw (X : K.In h) (G : h.Ns mainGlobals mg) (c : obsE moL fnL K = valE fnL) : DefOf K mg "_law_draw" s__law_draw P__law_draw := defOf_ X G (moF_fact (saysE_mo c) 8) (saysE_def c 8) (fun _ _ _ _ _ _ us hl => match us, hl with | [_, _], _ => rfl)
theorem h_F__law_pick (X : K.In h) (G : h.Ns mainGlobals mg) (c : obsE moL fnL K = valE fnL) : DefOf K mg "_law_pick" s__law_pick P__law_pick := defOf_ X G (moF_fact (saysE_mo c) 9) (saysE_def c 9) (fun _ _ _ _ _ _ us hl => match us, hl with | [_, _], _ => rfl)
theorem h_F__law_signs (X : K.In h) (G : h.Ns mainGlobals mg) (c : obsE moL fnL K = valE fnL) : DefOf K mg "_law_signs" s__law_signs P__law_signs := defOf_ X G (moF_fact (saysE_mo c) 10) (saysE_def c 10) (fun _ _ _ _ _ _ us hl => match us, hl with | [_, _, _], _ => rfl)
theorem h_F__law_form (X : K.In h) (G : h.Ns mainGlobals mg) (c : obsE moL fnL K = valE fnL) : DefOf K mg "_law_form" s__law_form P__law_form := defOf_ X G (moF_fact (saysE_mo c) 11) (saysE_def c 11) (fun _ _ _ _ _ _ us hl => match us, hl with | [_, _], _ => rfl)
theorem h_F__law_is_number (X : K.In h) (G : h.Ns mainGlobals mg) (c : obsE moL fnL K = valE fnL) : DefOf K mg "_law_is_number" s__law_is_number P__law_is_number := defOf_ X G (moF_fact (saysE_mo c) 12) (saysE_def c 12) (fun _ _ _ _ _ _ us hl => match us, hl with | [_], _ => rfl)
theorem h_F__law_wrong (X : K.In h) (G : h.Ns mainGlobals mg) (c : obsE moL fnL K = valE fnL) : DefOf K mg "_law_wrong" s__law_wrong P__law_wrong := defOf_ X G (moF_fact (saysE_mo c) 13) (saysE_def c 13) (fun _ _ _ _ _ _ us hl => match us, hl with | [_], _ => rfl)
theorem h_F__law_bent (X : K.In h) (G : h.Ns mainGlobals mg) (c : obsE moL fnL K = valE fnL) : DefOf K mg "_law_bent" s__law_bent P__law_bent := defOf_ X G (moF_fact (saysE_mo c) 14) (saysE_def c 14) (fun _ _ _ _ _ _ us hl => match us, hl with | [_, _], _ => rfl)
theorem h_F__law_read (X : K.In h) (G : h.Ns mainGlobals mg) (c : obsE moL fnL K = valE fnL) : DefOf K mg "_law_read" s__law_read P__law_read := defOf_ X G (moF_fact (saysE_mo c) 15) (saysE_def c 15) (fun _ _ _ _ _ _ us hl => match us, hl with | [_], _ => rfl)
theorem h_F__law_turned (X : K.In h) (G : h.Ns mainGlobals mg) (c : obsE moL fnL K = valE fnL) : DefOf K mg "_law_turned" s__law_turned P__law_turned := defOf_ X G (moF_fact (saysE_mo c) 16) (saysE_def c 16) (fun _ _ _ _ _ _ us hl => match us, hl with | [_, _], _ => rfl)
theorem h_F_DaySet___init__ (X : K.In h) (G : h.Ns mainGlobals mg) (c : obsE moL fnL K = valE fnL) : MakOf K (ga K "DaySet") "DaySet.__init__" s_DaySet___init__ P_DaySet___init__ := makOf_ (moF_fact (saysE_mo c) 17) (saysE_def c 17) (fun _ _ _ _ _ _ us hl => match us, hl with | [_, _, _, _, _], _ => rfl)
theorem h_F_DaySet_read (X : K.In h) (G : h.Ns mainGlobals mg) (c : obsE moL fnL K = valE fnL) : ClmOf K (ga K "DaySet") "read" "DaySet.read" s_DaySet_read P_DaySet_read := clmOf_ (moF_ex (saysE_mo c) 0) (moF_ex (saysE_mo c) 1) (saysE_def c 18) (fun _ _ _ _ _ _ us hl => match us, hl with | [_, _], _ => rfl)
theorem h_F_DaySet_turns (X : K.In h) (G : h.Ns mainGlobals mg) (c : obsE moL fnL K = valE fnL) : ClmOf K (ga K "DaySet") "turns" "DaySet.turns" s_DaySet_turns P_DaySet_turns := clmOf_ (moF_ex (saysE_mo c) 0) (moF_ex (saysE_mo c) 2) (saysE_def c 19) (fun _ _ _ _ _ _ us hl => match us, hl with | [_, _, _], _ => rfl)
theorem h_F_BadDays (X : K.In h) (G : h.Ns mainGlobals mg) (c : obsE moL fnL K = valE fnL) : SupOf K mg "BadDays" (ga K "BadDays") "BadDays.__init__" s_BadDays___init__ P_BadDays___init__ := supOf_ X G (moF_ex (saysE_mo c) 3) (moF_fact (saysE_mo c) 18) (moF_ex (saysE_mo c) 4) (saysE_sup c 20) (fun _ _ _ _ _ _ _ us hl => match us, hl with | [_, _], _ => rfl)
theorem h_F_BadCount (X : K.In h) (G : h.Ns mainGlobals mg) (c : obsE moL fnL K = valE fnL) : SupOf K mg "BadCount" (ga K "BadCount") "BadCount.__init__" s_BadCount___init__ P_BadCount___init__ := supOf_ X G (moF_ex (saysE_mo c) 5) (moF_fact (saysE_mo c) 19) (moF_ex (saysE_mo c) 6) (saysE_sup c 21) (fun _ _ _ _ _ _ _ us hl => match us, hl with | [_, _], _ => rfl)
theorem h_SU (X : K.In h) (G : h.Ns mainGlobals mg) (c : obsE moL fnL K = valE fnL) : mg "super" = none := free_ok X G (moF_fact (saysE_mo c) 20)
theorem h_G_LONGEST_TURN (X : K.In h) (G : h.Ns mainGlobals mg) (c : obsE moL fnL K = valE fnL) : ∃ u, mg "LONGEST_TURN" = some u ∧ L2.RelV (.int 60) u := intG X G (moF_fact (saysE_mo c) 41)
theorem h_G_DIGITS (X : K.In h) (G : h.Ns mainGlobals mg) (c : obsE moL fnL K = valE fnL) : ∃ u, mg "DIGITS" = some u ∧ L2.RelV (.str "0123456789") u := strG X G (moF_fact (saysE_mo c) 42)
theorem h_T (X : K.In h) (G : h.Ns mainGlobals mg) (c : obsE moL fnL K = valE fnL) : Txt K mg := { b_len := free_ok X G (moF_fact (saysE_mo c) 21), b_abs := free_ok X G (moF_fact (saysE_mo c) 22), b_int := free_ok X G (moF_fact (saysE_mo c) 23), b_str := free_ok X G (moF_fact (saysE_mo c) 24), b_min := free_ok X G (moF_fact (saysE_mo c) 25), b_max := free_ok X G (moF_fact (saysE_mo c) 26), b_range := free_ok X G (moF_fact (saysE_mo c) 27), b_all := free_ok X G (moF_fact (saysE_mo c) 28), b_any := free_ok X G (moF_fact (saysE_mo c) 29), b_isinstance := free_ok X G (moF_fact (saysE_mo c) 30), b_bool := free_ok X G (moF_fact (saysE_mo c) 31), b_list := free_ok X G (moF_fact (saysE_mo c) 32), b_enumerate := free_ok X G (moF_fact (saysE_mo c) 33), b_sorted := free_ok X G (moF_fact (saysE_mo c) 34), b_dict := free_ok X G (moF_fact (saysE_mo c) 35), b_repr := free_ok X G (moF_fact (saysE_mo c) 36), b_tuple := free_ok X G (moF_fact (saysE_mo c) 37), b_zip := free_ok X G (moF_fact (saysE_mo c) 38), b_sum := free_ok X G (moF_fact (saysE_mo c) 39), b_reversed := free_ok X G (moF_fact (saysE_mo c) 40) }
theorem h_D (X : K.In h) (G : h.Ns mainGlobals mg) (c : obsE moL fnL K = valE fnL) : DSC K mg (ga K "DaySet") := { cl := cls_ok (moF_fact (saysE_mo c) 43), c := glo_ok X G (moF_fact (saysE_mo c) 44), g := ⟨_, glo_ok X G (moF_fact (saysE_mo c) 44), rfl⟩, n_left := noat_ok (moF_fact (saysE_mo c) 45), n_low := noat_ok (moF_fact (saysE_mo c) 46), n_middle := noat_ok (moF_fact (saysE_mo c) 47), n_right := noat_ok (moF_fact (saysE_mo c) 48), n_high := noat_ok (moF_fact (saysE_mo c) 49), sf := (moF_ex (saysE_mo c) 7), ne := eqO_ok (moF_ex (saysE_mo c) 8), ob := of_decide_eq_true (moF_ex (saysE_mo c) 9), ha := eqO_ok (moF_ex (saysE_mo c) 10), hn := eqO_ok (moF_ex (saysE_mo c) 11), htk := of_decide_eq_true (moF_ex (saysE_mo c) 12), isi := of_decide_eq_true (moF_ex (saysE_mo c) 13), si := of_decide_eq_true (moF_ex (saysE_mo c) 14), r_rshift := eqO_ok (moF_ex (saysE_mo c) 15), r_lshift := eqO_ok (moF_ex (saysE_mo c) 16), i_rshift := eqO_ok (moF_ex (saysE_mo c) 17), i_lshift := eqO_ok (moF_ex (saysE_mo c) 18), i_rrshift := eqO_ok (moF_ex (saysE_mo c) 19), i_rlshift := eqO_ok (moF_ex (saysE_mo c) 20) }
theorem h_EC (X : K.In h) (G : h.Ns mainGlobals mg) (c : obsE moL fnL K = valE fnL) : ErrR K mg (ga K "BadDays") (ga K "BadCount") (ga K "OneWayError") := { ve := free_ok X G (moF_fact (saysE_mo c) 50), g_OneWayError := ⟨_, glo_ok X G (moF_fact (saysE_mo c) 51), rfl⟩, m_BadDays := glo_ok X G (moF_fact (saysE_mo c) 18), m_BadCount := glo_ok X G (moF_fact (saysE_mo c) 19), xf_BadDays := (sup_ok (moF_ex (saysE_mo c) 3)).xf, xf_BadCount := (sup_ok (moF_ex (saysE_mo c) 5)).xf, n_BadDays_index := eqO_ok (moF_ex (saysE_mo c) 21), n_BadCount_count := eqO_ok (moF_ex (saysE_mo c) 22), ecB := (sup_ok (moF_ex (saysE_mo c) 3)).ec, ecC := (sup_ok (moF_ex (saysE_mo c) 5)).ec, kB := of_decide_eq_true (moF_ex (saysE_mo c) 23), kC := of_decide_eq_true (moF_ex (saysE_mo c) 24), vB := of_decide_eq_true (moF_ex (saysE_mo c) 25), vC := of_decide_eq_true (moF_ex (saysE_mo c) 26), xB := exm_ok (moF_fact (saysE_mo c) 52), xC := exm_ok (moF_fact (saysE_mo c) 53) }
end
theorem factsL {P : Program} {w : World} {K : PySem.W.Frag} {h : Heap} {mg : Str → Option Value} {f : Addr} (X : K.In h) (G : h.Ns mainGlobals mg) (hfa : mg ("law" : Str) = some (.ref f)) (c : obsE moL fnL K = valE fnL) (EP : SupP P "/claim/cut.py") :
    ∃ fd : FuncData, (∀ (s : Shared) (v : Value), BindsTo s fd ⟨[v], []⟩ [("_law_script", v)]) ∧ ∀ base : Heap, K.In base → base.Ns mainGlobals mg → FnOk P w K mg base C8.CX0 8 f fd ["_law_script"] (sp_law (K := K)) := by
  obtain ⟨fd, Fl, df, _⟩ := saysE_def c 22 (d := dG "law" s_law) rfl
  have e := hfa.symm.trans (glo_ok X G (moF_fact (saysE_mo c) 54 (f := .glo "law") rfl))
  cases e
  have b : ∀ (s : Shared) (v : Value), BindsTo s fd ⟨[v], []⟩ [("_law_script", v)] := by
    obtain ⟨oc, od, dV, kV, doc, pm, an, cdv, ct, osl, rfl, _, _⟩ := Fl.ex
    have e2 : dV = .none := df
    subst e2
    exact fun s v => .of_eq rfl
  refine ⟨fd, b, fun base hb hG => ?_⟩
  have F_root_of := h_F_root_of X G c
  have F_turned_row := h_F_turned_row X G c
  have F_bare_form := h_F_bare_form X G c
  have F_least_form := h_F_least_form X G c
  have F_is_row := h_F_is_row X G c
  have F_is_count := h_F_is_count X G c
  have F_is_number := h_F_is_number X G c
  have F__law_pen := h_F__law_pen X G c
  have F__law_draw := h_F__law_draw X G c
  have F__law_pick := h_F__law_pick X G c
  have F__law_signs := h_F__law_signs X G c
  have F__law_form := h_F__law_form X G c
  have F__law_is_number := h_F__law_is_number X G c
  have F__law_wrong := h_F__law_wrong X G c
  have F__law_bent := h_F__law_bent X G c
  have F__law_read := h_F__law_read X G c
  have F__law_turned := h_F__law_turned X G c
  have F_DaySet___init__ := h_F_DaySet___init__ X G c
  have F_DaySet_read := h_F_DaySet_read X G c
  have F_DaySet_turns := h_F_DaySet_turns X G c
  have F_BadDays := h_F_BadDays X G c
  have F_BadCount := h_F_BadCount X G c
  have SU := h_SU X G c
  have G_LONGEST_TURN := h_G_LONGEST_TURN X G c
  have G_DIGITS := h_G_DIGITS X G c
  have T := h_T X G c
  have D := h_D X G c
  have EC := h_EC X G c
  have C_root_of := c_root_of (P := P) (w := w) (base := base) T F_root_of
  have C_turned_row := c_turned_row (P := P) (w := w) (base := base) T F_turned_row
  have C_bare_form := c_bare_form (P := P) (w := w) (base := base) T F_bare_form C_turned_row
  have C_least_form := c_least_form (P := P) (w := w) (base := base) T F_least_form C_root_of C_turned_row C_bare_form
  have M_DaySet := k_init (P := P) (w := w) (base := base) T D F_DaySet___init__ C_least_form
  have C_isrow := c_is_row (P := P) (w := w) (base := base) T F_is_row
  have C_iscount := c_is_count (P := P) (w := w) (base := base) T G_DIGITS F_is_count
  have C_isnumber := c_is_number (P := P) (w := w) (base := base) T F_is_number C_iscount
  have C_pen := c_pen (P := P) (w := w) (base := base) T F__law_pen
  have C_draw := c_draw (P := P) (w := w) (base := base) T F__law_draw
  have C_signs := c_signs (P := P) (w := w) (base := base) T F__law_signs C_draw
  have C_form := c_form (P := P) (w := w) (base := base) T F__law_form C_draw C_signs
  have O_BadDays := o_BadDays (P := P) (w := w) (base := base) EC.n_BadDays_index EP SU F_BadDays
  have O_BadCount := o_BadCount (P := P) (w := w) (base := base) EC.n_BadCount_count EP SU F_BadCount
  have KX_read := q_readX (P := P) (w := w) (base := base) T D F_DaySet_read C_isnumber C_isrow M_DaySet O_BadDays
  have KX_turns := q_turnsX (P := P) (w := w) (base := base) T D G_LONGEST_TURN F_DaySet_turns M_DaySet O_BadCount
  have C_pick := c_pick (P := P) (w := w) (base := base) T F__law_pick C_draw
  have C_lisnum := c_lisnum (P := P) (w := w) (base := base) T F__law_is_number
  have C_wrong := c_wrong (P := P) (w := w) (base := base) T F__law_wrong C_lisnum
  have C_bent := c_bent (P := P) (w := w) (base := base) T F__law_bent C_draw C_pick
  have C_lread := c_lread (P := P) (w := w) (base := base) T D EC F__law_read KX_read
  have C_lturned := c_lturned (P := P) (w := w) (base := base) T D EC F__law_turned KX_turns
  exact ok_law T Fl C_pen C_draw C_pick C_form C_bent C_wrong C_lread C_lturned
end Od
open PySem PySem.W PySem.Calls PyProof.Rows
set_option maxRecDepth 100000 in
set_option maxHeartbeats 0 in
theorem PySem.Challenge.cw_onewaydays_k02_forms_refused_holds : PySem.Challenge.rw_onewaydays_k02_forms_refused.Holds := by
  w_on; o_law
  refine HandSHeadRun.head_any (r := OpenLaw.row PySem.Challenge.rw_onewaydays_k02_forms_refused) (q := view (OpenLaw.row PySem.Challenge.rw_onewaydays_k02_forms_refused).prog [39]) (H := Od.hkL) (ob := Od.obL) (M := 12000) (loose := Od.namesL) (d := HandSHeadRun.topDef (OpenLaw.row PySem.Challenge.rw_onewaydays_k02_forms_refused).prog 39) (kwd := []) Od.obL_eq
    (by kernel_rfl) (fun s => by kernel_rfl) Od.runL (by kernel_rfl) (by kernel_rfl) (by kernel_rfl) (by rfl) (by first | assumption | decide +kernel) (by decide +kernel) ⟨rfl, rfl, rfl, rfl, rfl, by decide +kernel⟩ ?hw ?hc
  case hw => w_witness2
  case hc =>
    refine L2.walk_ofE (l := PySem.Challenge.rw_onewaydays_k02_forms_refused) (n := 63) (k := 8) (x := "_law_script") (CX := C8.CX0) rfl (by decide) (by kernel_rfl) ⟨rfl, by decide, by decide⟩ ?F (fun _ _ _ _ z => z)
    intro w mg fa h Y G hmg0
    obtain ⟨K, KX, c⟩ := Y
    have hmg : mg ("law" : PySem.Str) = some (.ref fa) := by
      have e : (HandSHeadRun.topDef (OpenLaw.row PySem.Challenge.rw_onewaydays_k02_forms_refused).prog 39).name = ("law" : PySem.Str) := by kernel_rfl
      rw [← e]
      exact hmg0
    obtain ⟨fd, hb, hF⟩ := Od.factsL (P := (PySem.Challenge.rw_onewaydays_k02_forms_refused).prog) (w := w) KX G hmg c ⟨by kernel_rfl, by kernel_rfl⟩
    exact ⟨K, fd, Od.sp_law (K := K), KX, hb, fun H a ns hl hO hS => ⟨a, ns, rfl, hS, hl, fun _ => rfl⟩, hF⟩
