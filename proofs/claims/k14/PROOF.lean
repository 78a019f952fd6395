import PyProof.Rows.All
import Wide.All
import OpenK.AllK
import Wide.FinOn
import PyProof.StrBlock2
import PyProof.Rows.StrRev
import PyProof.InstEq
import KE.KOpsOwn
import KE.KCallOwn
import HandS.ForMost
import HandS.Wide
import HandS.Codes
import HandS.ClsMeth
import HandS.OwnEq
import HandS.IsInst
import HandS.Walk
import HandS.Sort
import HandS.Conv
import KE.KDictList
import HandS.Comp
import HandS.Dict
import HandS.DictComp
import HandS.Star
import HandS.RaiseMore
import HandS.StrMore
import HandS.Deep
import PyProof.Rows.SortShellAny
import KE.KIntText
import KE.IntTextLaws
import HandS.Text
import HandS.FStr
import PyProof.EqAt
import PyProof.NeKinds
import HandS.Style
import HandS.TryOnly
import HandS.Nested
import HandS.List
import HandS.More
import KE.KDictZip
import HandS.Iter
import HandS.Head0
import HandS.Head1
import HandS.Head2
import HandS.HeadEnd
import HandS.HeadHook1
import HandS.HeadHook2
import KE.KExcSuper
import HandS.ExcInit
import HandS.ExcSuper
import HandS.ExcField
import HandS.ExcIs
import HandS.EndTab
import KE.KStateDown
import PySem.Challenge.RW_onewaydays_k14_whole_maps_turned
section
set_option Elab.async false
set_option linter.all false
namespace Day
/-! ### rows that are repeated -/
theorem gd_left {a b : List Bool} {i : Nat} (h : i < a.length) : (a ++ b).getD i false = a.getD i false := by
  rw [List.getD_eq_getElem?_getD, List.getElem?_append_left h, ← List.getD_eq_getElem?_getD]
theorem gd_right {a b : List Bool} {i : Nat} (h : a.length ≤ i) : (a ++ b).getD i false = b.getD (i - a.length) false := by
  rw [List.getD_eq_getElem?_getD, List.getElem?_append_right h, ← List.getD_eq_getElem?_getD]
def cyc (l : List Bool) (z : Int) : Bool := l.getD (z % (l.length : Int)).toNat false
def Per (f : Int → Bool) (p : Int) : Prop := ∀ z, f (z + p) = f z
theorem Per.neg {f : Int → Bool} {p : Int} (h : Per f p) : Per f (-p) := fun z => by
  have := h (z + -p)
  rw [show z + -p + p = z by omega] at this
  exact this.symm
theorem Per.add {f : Int → Bool} {p q : Int} (h : Per f p) (k : Per f q) : Per f (p + q) := fun z => by
  rw [show z + (p + q) = z + p + q by omega, k, h]
theorem Per.nat {f : Int → Bool} {p : Int} (h : Per f p) : ∀ n : Nat, Per f ((n : Int) * p)
  | 0 => fun z => by simp
  | n + 1 => by
    have := (Per.nat h n).add h
    rw [show ((n + 1 : Nat) : Int) * p = (n : Int) * p + p by rw [Int.natCast_add, Int.add_mul]; simp]
    exact this
theorem Per.mul {f : Int → Bool} {p : Int} (h : Per f p) (k : Int) : Per f (k * p) := by
  rcases Int.le_total 0 k with e | e
  · have := h.nat k.toNat
    rwa [Int.toNat_of_nonneg e] at this
  · have := (h.nat (-k).toNat).neg
    rw [Int.toNat_of_nonneg (by omega)] at this
    rwa [show -(-k * p) = k * p by rw [Int.neg_mul, Int.neg_neg]] at this
theorem Per.mod {f : Int → Bool} {p q : Int} (h : Per f p) (k : Per f q) : Per f (q % p) := by
  have e : q % p = q + (-(q / p)) * p := by
    have := Int.mul_ediv_add_emod q p
    rw [Int.neg_mul, Int.mul_comm (q / p) p]
    omega
  rw [e]
  exact k.add (h.mul _)
theorem Per.at {f : Int → Bool} {p : Int} (h : Per f p) (z k : Int) : f (z + k * p) = f z := h.mul k z
/-- the least positive period divides all periods -/
theorem least_per {f : Int → Bool} {p : Int} (h0 : 0 < p) (h : Per f p) : ∃ d : Int, 0 < d ∧ Per f d ∧ (∀ e, 0 < e → Per f e → d ≤ e) ∧ ∀ e, Per f e → e % d = 0 := by
  have key : ∀ n : Nat, ∀ p : Int, p.toNat = n → 0 < p → Per f p → ∃ d : Int, 0 < d ∧ Per f d ∧ ∀ e, 0 < e → Per f e → d ≤ e := by
    intro n
    induction n using Nat.strongRecOn with
    | ind n ih =>
      intro p hp h0 h
      by_cases q : ∃ e, 0 < e ∧ Per f e ∧ e < p
      · obtain ⟨e, e0, eh, el⟩ := q
        exact ih e.toNat (by omega) e rfl e0 eh
      · exact ⟨p, h0, h, fun e e0 eh => by
          rcases Int.lt_or_le e p with z | z
          · exact absurd ⟨e, e0, eh, z⟩ q
          · exact z⟩
  obtain ⟨d, d0, dh, dl⟩ := key _ p rfl h0 h
  refine ⟨d, d0, dh, dl, fun e eh => ?_⟩
  have m0 := Int.emod_nonneg e (show d ≠ 0 by omega)
  have m1 := Int.emod_lt_of_pos e d0
  rcases Int.lt_or_eq_of_le m0 with z | z
  · have := dl _ z (dh.mod eh)
    omega
  · exact z.symm
theorem cyc_per {l : List Bool} : Per (cyc l) l.length := fun z => by
  unfold cyc
  rw [Int.add_emod_right]
theorem cyc_nat {l : List Bool} {i : Nat} (h : i < l.length) : cyc l i = l.getD i false := by
  unfold cyc
  rw [Int.emod_eq_of_lt (by omega) (by omega)]
  simp
theorem cyc_mod {l : List Bool} (z : Int) : cyc l (z % l.length) = cyc l z := by
  unfold cyc
  rw [Int.emod_emod_of_dvd z (Int.dvd_refl _)]
theorem getD_ext {l k : List Bool} (hl : l.length = k.length) (h : ∀ i, i < l.length → l.getD i false = k.getD i false) : l = k := by
  apply List.ext_getElem hl
  intro i h1 h2
  have := h i h1
  rw [List.getD_eq_getElem?_getD, List.getD_eq_getElem?_getD, List.getElem?_eq_getElem h1, List.getElem?_eq_getElem h2] at this
  simpa using this
theorem cyc_ext {l k : List Bool} (hl : l.length = k.length) (h : ∀ z, cyc l z = cyc k z) : l = k :=
  getD_ext hl fun i hi => by
    have := h i
    rwa [cyc_nat hi, cyc_nat (hl ▸ hi)] at this
/-- the row is the least that gives what it gives -/
def Prim (l : List Bool) : Prop := ∀ p : Int, 0 < p → Per (cyc l) p → (l.length : Int) ≤ p
/-- the test of root_of -/
def Root (l : List Bool) (s : Nat) : Prop := l.length % s = 0 ∧ (List.replicate (l.length / s) (l.take s)).flatten = l
theorem rep_getD (u : List Bool) : ∀ (k i : Nat), i < k * u.length → (List.replicate k u).flatten.getD i false = u.getD (i % u.length) false
  | 0, i, h => by simp at h
  | k + 1, i, h => by
    rw [List.replicate_succ, List.flatten_cons]
    rcases Nat.lt_or_ge i u.length with q | q
    · rw [gd_left q, Nat.mod_eq_of_lt q]
    · rw [gd_right q, rep_getD u k (i - u.length) (by rw [Nat.succ_mul] at h; omega), ← Nat.mod_eq_sub_mod q]
theorem rep_len (u : List Bool) (k : Nat) : (List.replicate k u).flatten.length = k * u.length := by
  simp [List.length_flatten]
theorem take_getD (l : List Bool) {s i : Nat} (h : i < s) : (l.take s).getD i false = l.getD i false := by
  rw [List.getD_eq_getElem?_getD, List.getD_eq_getElem?_getD, List.getElem?_take, if_pos h]
theorem Root.cyc {l : List Bool} {s : Nat} (h0 : 0 < s) (hs : s ≤ l.length) (h : Root l s) (z : Int) : cyc (l.take s) z = cyc l z := by
  obtain ⟨hm, he⟩ := h
  have hlen : (l.take s).length = s := by rw [List.length_take]; omega
  have hdiv : s * (l.length / s) = l.length := by
    have := Nat.div_add_mod l.length s
    omega
  have hl0 : 0 < l.length := by omega
  have b0 := Int.emod_nonneg z (show (l.length : Int) ≠ 0 by omega)
  have b1 := Int.emod_lt_of_pos z (show (0 : Int) < l.length by omega)
  rw [← cyc_mod (l := l) z]
  generalize hw : z % (l.length : Int) = w at *
  have e1 : Day.cyc l w = l.getD w.toNat false := by
    have := cyc_nat (l := l) (i := w.toNat) (by omega)
    rwa [Int.toNat_of_nonneg b0] at this
  rw [e1]
  have e2 : l.getD w.toNat false = (l.take s).getD (w.toNat % s) false := by
    conv => lhs; rw [← he]
    rw [rep_getD _ _ _ (by rw [hlen, Nat.mul_comm, hdiv]; omega), hlen]
  rw [e2]
  unfold Day.cyc
  rw [hlen]
  have e3 : z % (s : Int) = w % (s : Int) := by
    rw [← hw, Int.emod_emod_of_dvd]
    exact ⟨((l.length / s : Nat) : Int), by rw [← Int.natCast_mul, hdiv]⟩
  have e4 : (w % (s : Int)).toNat = w.toNat % s := by
    obtain ⟨v, rfl⟩ : ∃ v : Nat, w = (v : Int) := ⟨w.toNat, (Int.toNat_of_nonneg b0).symm⟩
    rw [← Int.natCast_emod, Int.toNat_natCast, Int.toNat_natCast]
  rw [e3, e4]
theorem Root.of_per {l : List Bool} {s : Nat} (h0 : 0 < s) (hs : s ≤ l.length) (hm : l.length % s = 0) (h : Per (Day.cyc l) s) : Root l s := by
  refine ⟨hm, ?_⟩
  have hlen : (l.take s).length = s := by rw [List.length_take]; omega
  have hdiv : s * (l.length / s) = l.length := by
    have := Nat.div_add_mod l.length s
    omega
  have hl : (List.replicate (l.length / s) (l.take s)).flatten.length = l.length := by rw [rep_len, hlen, Nat.mul_comm, hdiv]
  refine getD_ext hl fun i hi => ?_
  rw [rep_getD _ _ _ (by rw [hlen, Nat.mul_comm, hdiv]; omega), hlen, take_getD _ (Nat.mod_lt _ h0)]
  have hi' : i < l.length := by omega
  rw [← cyc_nat hi', ← cyc_nat (show i % s < l.length from Nat.lt_of_lt_of_le (Nat.mod_lt _ h0) hs)]
  have := h.at ((i % s : Nat) : Int) ((i / s : Nat) : Int)
  rw [← this]
  congr 1
  have e := Nat.mod_add_div i s
  have : (i : Int) = ((i % s + s * (i / s) : Nat) : Int) := by rw [e]
  rw [this, Int.natCast_add, Int.natCast_mul, Int.mul_comm (s : Int)]
theorem Root.per {l : List Bool} {s : Nat} (h0 : 0 < s) (hs : s ≤ l.length) (h : Root l s) : Per (Day.cyc l) s := fun z => by
  have hlen : (l.take s).length = s := by rw [List.length_take]; omega
  rw [← h.cyc h0 hs, ← h.cyc h0 hs]
  have := cyc_per (l := l.take s) z
  rwa [hlen] at this
theorem prim_len {l : List Bool} (h : l ≠ []) : 0 < l.length := by
  cases l with
  | nil => exact absurd rfl h
  | cons a b => simp
theorem root_some {l : List Bool} {s : Nat} (h0 : 1 ≤ s) (hs : s < l.length) (h : Root l s) (hb : ∀ t, 1 ≤ t → t < s → ¬ Root l t) : Prim (l.take s) := by
  have hlen : (l.take s).length = s := by rw [List.length_take]; omega
  obtain ⟨d, d0, dh, dl, dd⟩ := least_per (f := Day.cyc l) (p := s) (by omega) (h.per h0 (by omega))
  have e1 := dl s (by omega) (h.per h0 (by omega))
  have hld := dd l.length cyc_per
  have dn : d = ((d.toNat : Nat) : Int) := (Int.toNat_of_nonneg (by omega)).symm
  rcases Int.lt_or_eq_of_le e1 with z | z
  · refine absurd (Root.of_per (l := l) (s := d.toNat) (by omega) (by omega) ?_ (by rw [← dn]; exact dh)) (hb _ (by omega) (by omega))
    rw [dn, ← Int.natCast_emod] at hld
    omega
  · intro p p0 hp
    rw [hlen, ← z]
    refine dl p p0 fun y => ?_
    have := hp y
    rwa [h.cyc h0 (by omega), h.cyc h0 (by omega)] at this
theorem root_none {l : List Bool} (h : l ≠ []) (hb : ∀ t, 1 ≤ t → t < l.length → ¬ Root l t) : Prim l := by
  have hl := prim_len h
  obtain ⟨d, d0, dh, dl, dd⟩ := least_per (f := Day.cyc l) (p := l.length) (by omega) cyc_per
  have e1 := dl l.length (by omega) cyc_per
  have hld := dd l.length cyc_per
  have dn : d = ((d.toNat : Nat) : Int) := (Int.toNat_of_nonneg (by omega)).symm
  rcases Int.lt_or_eq_of_le e1 with z | z
  · refine absurd (Root.of_per (l := l) (s := d.toNat) (by omega) (by omega) ?_ (by rw [← dn]; exact dh)) (hb _ (by omega) (by omega))
    rw [dn, ← Int.natCast_emod] at hld
    omega
  · intro p p0 hp
    rw [← z]
    exact dl p p0 hp
/-! ### turning a row -/
def turn (l : List Bool) (k : Int) : List Bool := l.drop (k % (l.length : Int)).toNat ++ l.take (k % (l.length : Int)).toNat
theorem turn_len (l : List Bool) (k : Int) : (turn l k).length = l.length := by
  unfold turn
  rw [List.length_append, List.length_drop, List.length_take]
  omega
theorem turn_ne {l : List Bool} {k : Int} (h : l ≠ []) : turn l k ≠ [] := fun e => by
  have := turn_len l k
  rw [e] at this
  have := prim_len h
  simp at *
  omega
theorem turn_cyc {l : List Bool} (h : l ≠ []) (k z : Int) : cyc (turn l k) z = cyc l (z + k) := by
  have hl := prim_len h
  have k0 := Int.emod_nonneg k (show (l.length : Int) ≠ 0 by omega)
  have k1 := Int.emod_lt_of_pos k (show (0 : Int) < l.length by omega)
  have z0 := Int.emod_nonneg z (show (l.length : Int) ≠ 0 by omega)
  have z1 := Int.emod_lt_of_pos z (show (0 : Int) < l.length by omega)
  have e1 : cyc l (z + k) = cyc l (z % l.length + k % l.length) := by
    rw [← cyc_mod (z + k), ← cyc_mod (z % l.length + k % l.length), ← Int.add_emod]
  rw [e1]
  have e2 : cyc (turn l k) z = (turn l k).getD (z % l.length).toNat false := by
    show (turn l k).getD (z % ((turn l k).length : Int)).toNat false = _
    rw [turn_len]
  rw [e2]
  unfold turn
  generalize z % (l.length : Int) = y at *
  generalize k % (l.length : Int) = j at *
  rcases Int.lt_or_le (y + j) l.length with q | q
  · rw [gd_left (by rw [List.length_drop]; omega)]
    rw [List.getD_eq_getElem?_getD, List.getElem?_drop, ← List.getD_eq_getElem?_getD]
    have := cyc_nat (l := l) (i := (y + j).toNat) (by omega)
    rw [Int.toNat_of_nonneg (by omega)] at this
    rw [this]
    congr 1
    omega
  · rw [gd_right (by rw [List.length_drop]; omega), List.length_drop, take_getD _ (by omega)]
    have h1 : cyc l (y + j) = cyc l (y + j - l.length) := by
      have := cyc_per (l := l) (y + j - l.length)
      rw [show y + j - (l.length : Int) + l.length = y + j by omega] at this
      exact this
    rw [h1]
    have := cyc_nat (l := l) (i := (y + j - l.length).toNat) (by omega)
    rw [Int.toNat_of_nonneg (by omega)] at this
    rw [this]
    congr 1
    omega
theorem turn_prim {l : List Bool} (h : l ≠ []) (k : Int) (p : Prim l) : Prim (turn l k) := fun q q0 hq => by
  rw [turn_len]
  refine p q q0 fun z => ?_
  have := hq (z - k)
  rw [turn_cyc h, turn_cyc h, show z - k + q + k = z + q by omega, show z - k + k = z by omega] at this
  exact this
/-! ### forms -/
structure Frm where
  l : List Bool
  low : Int
  m : List Bool
  r : List Bool
def Frm.high (F : Frm) : Int := F.low + (F.m.length : Int)
/-- the sign of a day -/
def Frm.mem (F : Frm) (n : Int) : Bool :=
  if F.high ≤ n then cyc F.r (n - F.high) else if n < F.low then cyc F.l (n - F.low) else F.m.getD (n - F.low).toNat false
theorem Frm.low_high (F : Frm) : F.low ≤ F.high := by unfold Frm.high; omega
theorem Frm.mem_up (F : Frm) {n : Int} (h : F.high ≤ n) : F.mem n = cyc F.r (n - F.high) := if_pos h
theorem Frm.mem_dn (F : Frm) {n : Int} (h : n < F.low) : F.mem n = cyc F.l (n - F.low) := by
  unfold Frm.mem
  rw [if_neg (by have := F.low_high; omega), if_pos h]
theorem Frm.mem_mid (F : Frm) {n : Int} (h : F.low ≤ n) (h' : n < F.high) : F.mem n = F.m.getD (n - F.low).toNat false := by
  unfold Frm.mem
  rw [if_neg (by omega), if_neg (by omega)]
theorem Frm.up (F : Frm) {n : Int} (h : F.high ≤ n) : F.mem (n + F.r.length) = F.mem n := by
  rw [F.mem_up h, F.mem_up (by omega), show n + (F.r.length : Int) - F.high = n - F.high + F.r.length by omega, cyc_per]
theorem Frm.dn (F : Frm) {n : Int} (h : n < F.low) : F.mem (n - F.l.length) = F.mem n := by
  rw [F.mem_dn h, F.mem_dn (by omega)]
  have := cyc_per (l := F.l) (n - F.l.length - F.low)
  rw [← this]
  congr 1
  omega
/-- the least form -/
structure Least (F : Frm) : Prop where
  l0 : F.l ≠ []
  r0 : F.r ≠ []
  pl : Prim F.l
  pr : Prim F.r
  body : (F.m ≠ [] ∧ F.mem (F.high - 1) ≠ F.mem (F.high - 1 + F.r.length) ∧ F.mem F.low ≠ F.mem (F.low - F.l.length)) ∨
    (F.m = [] ∧ F.l = F.r ∧ F.low = 0) ∨ (F.m = [] ∧ F.mem (F.high - 1) ≠ F.mem (F.high - 1 + F.r.length))
/-- f comes again after p days upwards from b on -/
def Up (f : Int → Bool) (p b : Int) : Prop := ∀ n, b ≤ n → f (n + p) = f n
/-- .. downwards below b -/
def Dn (f : Int → Bool) (p b : Int) : Prop := ∀ n, n < b → f (n - p) = f n
theorem Up.nat {f : Int → Bool} {p b : Int} (h0 : 0 < p) (h : Up f p b) : ∀ (k : Nat) (n : Int), b ≤ n → f (n + k * p) = f n
  | 0, n, _ => by simp
  | k + 1, n, hn => by
    have e : n + ((k + 1 : Nat) : Int) * p = n + p + k * p := by
      rw [Int.natCast_add, Int.add_mul]
      simp
      omega
    rw [e, Up.nat h0 h k (n + p) (by omega), h n hn]
theorem Dn.nat {f : Int → Bool} {p b : Int} (h0 : 0 < p) (h : Dn f p b) : ∀ (k : Nat) (n : Int), n < b → f (n - k * p) = f n
  | 0, n, _ => by simp
  | k + 1, n, hn => by
    have e : n - ((k + 1 : Nat) : Int) * p = n - p - k * p := by
      rw [Int.natCast_add, Int.add_mul]
      simp
      omega
    rw [e, Dn.nat h0 h k (n - p) (by omega), h n hn]
theorem Up.mono {f : Int → Bool} {p b c : Int} (h : Up f p b) (hc : b ≤ c) : Up f p c := fun n hn => h n (by omega)
theorem Dn.mono {f : Int → Bool} {p b c : Int} (h : Dn f p b) (hc : c ≤ b) : Dn f p c := fun n hn => h n (by omega)
theorem big_mul {p : Int} (h : 0 < p) (z : Int) : ∃ k : Nat, z ≤ k * p := by
  refine ⟨z.toNat, ?_⟩
  have h1 : (z.toNat : Int) * 1 ≤ z.toNat * p := Int.mul_le_mul_of_nonneg_left (by omega) (by omega)
  omega
/-- a period from some day on of a form's function is one of its right row -/
theorem Frm.per_r (F : Frm) (h0 : F.r ≠ []) {p b : Int} (h : Up F.mem p b) : Per (cyc F.r) p := fun z => by
  have hl := prim_len h0
  obtain ⟨k, hk⟩ := big_mul (p := F.r.length) (by omega) (max (b - F.high - z) 0 + max (-z) 0 + max (-p) 0)
  generalize hK : (k : Int) * F.r.length = K at *
  have e1 := F.mem_up (n := z + K + F.high) (by omega)
  have e2 := F.mem_up (n := z + K + F.high + p) (by omega)
  have e3 := h (z + K + F.high) (by omega)
  rw [e1, e2, show z + K + F.high - F.high = z + K by omega, show z + K + F.high + p - F.high = z + p + K by omega, ← hK, cyc_per.at, cyc_per.at] at e3
  exact e3
theorem Frm.per_l (F : Frm) (h0 : F.l ≠ []) {p b : Int} (h : Dn F.mem p b) : Per (cyc F.l) p := fun z => by
  have hl := prim_len h0
  obtain ⟨k, hk⟩ := big_mul (p := F.l.length) (by omega) (max (F.low - b + z) 0 + max z 0 + max p 0 + max (-p) 0 + 1 + max (F.low - b + z + p) 0)
  generalize hK : (k : Int) * F.l.length = K at *
  have e1 := F.mem_dn (n := z + p - K + F.low) (by omega)
  have e2 := F.mem_dn (n := z + p - K + F.low - p) (by omega)
  have e3 := h (z + p - K + F.low) (by omega)
  have e4 : ∀ y : Int, cyc F.l (y - K) = cyc F.l y := fun y => by
    have := cyc_per (l := F.l) |>.at (y - K) k
    rw [hK, show y - K + K = y by omega] at this
    exact this.symm
  rw [e1, e2, show z + p - K + F.low - F.low = z + p - K by omega, show z + p - K + F.low - p - F.low = z - K by omega, e4, e4] at e3
  exact e3.symm
theorem Least.r_le {F : Frm} (L : Least F) {p b : Int} (h0 : 0 < p) (h : Up F.mem p b) : (F.r.length : Int) ≤ p := L.pr p h0 (F.per_r L.r0 h)
theorem Least.l_le {F : Frm} (L : Least F) {p b : Int} (h0 : 0 < p) (h : Dn F.mem p b) : (F.l.length : Int) ≤ p := L.pl p h0 (F.per_l L.l0 h)
theorem Prim.dvd {l : List Bool} (h0 : l ≠ []) (h : Prim l) {p : Int} (hp : Per (cyc l) p) : p % l.length = 0 := by
  have hl := prim_len h0
  have m0 := Int.emod_nonneg p (show (l.length : Int) ≠ 0 by omega)
  have m1 := Int.emod_lt_of_pos p (show (0 : Int) < l.length by omega)
  rcases Int.lt_or_eq_of_le m0 with z | z
  · have := h _ z (cyc_per.mod hp)
    omega
  · exact z.symm
theorem Least.r_dvd {F : Frm} (L : Least F) {p b : Int} (h : Up F.mem p b) : p % F.r.length = 0 := L.pr.dvd L.r0 (F.per_r L.r0 h)
theorem Least.l_dvd {F : Frm} (L : Least F) {p b : Int} (h : Dn F.mem p b) : p % F.l.length = 0 := L.pl.dvd L.l0 (F.per_l L.l0 h)
theorem Least.mono_up {F : Frm} (L : Least F) {p b : Int} (h0 : 0 < p) (h : Up F.mem p b) : Up F.mem F.r.length b := fun n hn => by
  have hl := prim_len L.r0
  obtain ⟨k, hk⟩ := big_mul h0 (max (F.high - n) 0)
  have e1 := h.nat h0 k n hn
  have e2 := h.nat h0 k (n + F.r.length) (by omega)
  have e3 := F.up (n := n + k * p) (by omega)
  rw [← e1, ← e2, ← e3]
  congr 1
  omega
theorem Least.mono_dn {F : Frm} (L : Least F) {p b : Int} (h0 : 0 < p) (h : Dn F.mem p b) : Dn F.mem F.l.length b := fun n hn => by
  have hl := prim_len L.l0
  obtain ⟨k, hk⟩ := big_mul h0 (max (n - F.low + 1) 0)
  have e1 := h.nat h0 k n hn
  have e2 := h.nat h0 k (n - F.l.length) (by omega)
  have e3 := F.dn (n := n - k * p) (by omega)
  rw [← e1, ← e2, ← e3]
  congr 1
  omega
/-- all of it comes again -/
theorem Least.all_per {F : Frm} (L : Least F) (h : F.m = [] ∧ F.l = F.r ∧ F.low = 0) : ∀ n, F.mem n = cyc F.r n := fun n => by
  obtain ⟨hm, hl, h0⟩ := h
  have hh : F.high = 0 := by unfold Frm.high; rw [hm, h0]; rfl
  rcases Int.lt_or_le n 0 with q | q
  · rw [F.mem_dn (by omega), hl, h0]
    congr 1
    omega
  · rw [F.mem_up (by omega), hh]
    congr 1
    omega
theorem Least.up_high {F : Frm} (L : Least F) : Up F.mem F.r.length F.high := fun _ hn => F.up hn
theorem Least.dn_low {F : Frm} (L : Least F) : Dn F.mem F.l.length F.low := fun _ hn => F.dn hn
/-- the odd day at the upper end -/
theorem Least.odd {F : Frm} (L : Least F) (h : ¬ (F.m = [] ∧ F.l = F.r ∧ F.low = 0)) : F.mem (F.high - 1) ≠ F.mem (F.high - 1 + F.r.length) := by
  rcases L.body with z | z | z
  · exact z.2.1
  · exact absurd z h
  · exact z.2
/-- one function has one least form -/
theorem Least.unique {F G : Frm} (L : Least F) (M : Least G) (h : ∀ n, F.mem n = G.mem n) : F = G := by
  have hf : F.mem = G.mem := funext h
  have lr := prim_len L.r0
  have lr' := prim_len M.r0
  have ll := prim_len L.l0
  have ll' := prim_len M.l0
  have e1 : (F.r.length : Int) = G.r.length := by
    have a := L.r_le (p := G.r.length) (b := G.high) (by omega) (by rw [hf]; exact M.up_high)
    have b := M.r_le (p := F.r.length) (b := F.high) (by omega) (by rw [← hf]; exact L.up_high)
    omega
  have e2 : (F.l.length : Int) = G.l.length := by
    have a := L.l_le (p := G.l.length) (b := G.low) (by omega) (by rw [hf]; exact M.dn_low)
    have b := M.l_le (p := F.l.length) (b := F.low) (by omega) (by rw [← hf]; exact L.dn_low)
    omega
  have rows : F.low = G.low → F.high = G.high → F = G := fun a b => by
    have r : F.r = G.r := cyc_ext (by omega) fun z => by
      obtain ⟨k, hk⟩ := big_mul (p := F.r.length) (by omega) (max (-z) 0)
      have x := F.mem_up (n := z + k * F.r.length + F.high) (by omega)
      have y := G.mem_up (n := z + k * F.r.length + F.high) (by omega)
      rw [h, y, ← b, show z + k * (F.r.length : Int) + F.high - F.high = z + k * F.r.length by omega, cyc_per.at, e1, cyc_per.at] at x
      exact x.symm
    have l : F.l = G.l := cyc_ext (by omega) fun z => by
      obtain ⟨k, hk⟩ := big_mul (p := F.l.length) (by omega) (max z 0 + 1)
      have x := F.mem_dn (n := z - k * F.l.length + F.low) (by omega)
      have y := G.mem_dn (n := z - k * F.l.length + F.low) (by omega)
      have s1 := cyc_per (l := F.l) |>.at (z - k * F.l.length) k
      have s2 := cyc_per (l := G.l) |>.at (z - k * G.l.length) k
      rw [show z - k * (F.l.length : Int) + k * F.l.length = z by omega] at s1
      rw [show z - k * (G.l.length : Int) + k * G.l.length = z by omega] at s2
      rw [h, y, ← a, show z - k * (F.l.length : Int) + F.low - F.low = z - k * F.l.length by omega] at x
      rw [s1, s2, ← x, e2]
    have ml : F.m.length = G.m.length := by
      have p := b
      unfold Frm.high at p
      omega
    have m : F.m = G.m := getD_ext ml fun i hi => by
      have p : F.high = F.low + F.m.length := rfl
      have p' : G.high = G.low + G.m.length := rfl
      have x := F.mem_mid (n := F.low + i) (by omega) (by omega)
      have y := G.mem_mid (n := F.low + i) (by omega) (by omega)
      rw [h, y, ← a, show (F.low + (i : Int) - F.low).toNat = i by omega] at x
      exact x.symm
    cases F
    cases G
    simp only at a r l m
    subst a
    subst r
    subst l
    subst m
    rfl
  by_cases pF : F.m = [] ∧ F.l = F.r ∧ F.low = 0
  · have aF := L.all_per pF
    by_cases pG : G.m = [] ∧ G.l = G.r ∧ G.low = 0
    · refine rows (by rw [pF.2.2, pG.2.2]) ?_
      unfold Frm.high
      rw [pF.2.2, pG.2.2, pF.1, pG.1]
    · exfalso
      refine M.odd pG ?_
      rw [← h, ← h, aF, aF, ← e1, cyc_per]
  · by_cases pG : G.m = [] ∧ G.l = G.r ∧ G.low = 0
    · exfalso
      refine L.odd pF ?_
      rw [h, h, M.all_per pG, M.all_per pG, e1, cyc_per]
    · have oF := L.odd pF
      have oG := M.odd pG
      have hh : F.high = G.high := by
        rcases Int.lt_trichotomy F.high G.high with z | z | z
        · exfalso
          refine oG ?_
          have := L.up_high (G.high - 1) (by omega)
          rw [h, h, e1] at this
          exact this.symm
        · exact z
        · exfalso
          refine oF ?_
          have := M.up_high (F.high - 1) (by omega)
          rw [← h, ← h, ← e1] at this
          exact this.symm
      refine rows ?_ hh
      have nF := F.low_high
      have nG := G.low_high
      have mF : ∀ {F : Frm}, F.m ≠ [] → F.low < F.high := fun {F} z => by
        have := prim_len z
        unfold Frm.high
        omega
      have mF0 : ∀ {F : Frm}, F.m = [] → F.low = F.high := fun {F} z => by
        unfold Frm.high
        rw [z]
        simp
      have cmp : ∀ {F G : Frm}, (∀ n, F.mem n = G.mem n) → (F.l.length : Int) = G.l.length → F.mem F.low ≠ F.mem (F.low - F.l.length) → Least G → G.low ≤ F.low := fun {F G} h e o M => by
        rcases Int.lt_or_le F.low G.low with z | z
        · exfalso
          refine o ?_
          have := M.dn_low F.low z
          rw [← h, ← h, ← e] at this
          exact this.symm
        · exact z
      have bF : F.m = [] ∨ (F.m ≠ [] ∧ F.mem F.low ≠ F.mem (F.low - F.l.length)) := by
        rcases L.body with z | z | z
        · exact .inr ⟨z.1, z.2.2⟩
        · exact .inl z.1
        · exact .inl z.1
      have bG : G.m = [] ∨ (G.m ≠ [] ∧ G.mem G.low ≠ G.mem (G.low - G.l.length)) := by
        rcases M.body with z | z | z
        · exact .inr ⟨z.1, z.2.2⟩
        · exact .inl z.1
        · exact .inl z.1
      rcases bF with x | x
      · rcases bG with y | y
        · rw [mF0 x, mF0 y, hh]
        · have q := cmp (fun n => (h n).symm) e2.symm y.2 L
          have := mF y.1
          have := mF0 x
          omega
      · rcases bG with y | y
        · have q := cmp h e2 x.2 M
          have := mF x.1
          have := mF0 y
          omega
        · have q := cmp h e2 x.2 M
          have q' := cmp (fun n => (h n).symm) e2.symm y.2 L
          omega
end Day
end
section
set_option Elab.async false
namespace Day
/-- bounds of a least form from what comes again -/
theorem Least.high_le {F : Frm} (L : Least F) {p b : Int} (p0 : 0 < p) (hb : 0 ≤ b) (h : Up F.mem p b) : F.high ≤ b := by
  by_cases pF : F.m = [] ∧ F.l = F.r ∧ F.low = 0
  · unfold Frm.high
    rw [pF.1, pF.2.2]
    simpa using hb
  · have u := L.mono_up p0 h
    have o := L.odd pF
    rcases Int.lt_or_le b F.high with z | z
    · exact absurd (u (F.high - 1) (by omega)).symm o
    · exact z
theorem Least.low_ge {F : Frm} (L : Least F) {p b : Int} (p0 : 0 < p) (hb : b ≤ 0) (h : Dn F.mem p b) : b - F.l.length - F.r.length ≤ F.low := by
  have d := L.mono_dn p0 h
  have ll := prim_len L.l0
  have lr := prim_len L.r0
  by_cases pF : F.m = [] ∧ F.l = F.r ∧ F.low = 0
  · omega
  · rcases Int.lt_or_le F.low (b - F.l.length - F.r.length) with z | z
    · exfalso
      have hlh := F.low_high
      rcases L.body with y | y | y
      · -- a middle: the day low is odd
        refine y.2.2 ?_
        exact (d F.low (by omega)).symm
      · exact pF y
      · have e : F.high = F.low := by unfold Frm.high; rw [y.1]; simp
        refine y.2 ?_
        have h1 := d (F.high - 1 + F.l.length) (by omega)
        have h2 := F.up (n := F.high - 1 + F.l.length) (by omega)
        have h3 := d (F.high - 1 + F.r.length + F.l.length) (by omega)
        rw [show F.high - 1 + (F.l.length : Int) - F.l.length = F.high - 1 by omega] at h1
        rw [show F.high - 1 + (F.r.length : Int) + F.l.length - F.l.length = F.high - 1 + F.r.length by omega] at h3
        rw [h1, h3, ← h2]
        congr 1
        omega
    · exact z
theorem le_of_dvd {p q : Int} (h0 : 0 < p) (hq : 0 ≤ q) (h : p % q = 0) : q ≤ p := by
  rcases Int.lt_or_le p q with z | z
  · rw [Int.emod_eq_of_lt (by omega) z] at h
    omega
  · exact z
/-- f comes again after p days from b days off 0 on -/
def Fit (f : Int → Bool) (p b : Int) : Prop := Up f p b ∧ Dn f p (-b)
theorem Fit.form {F : Frm} (L : Least F) {p b : Int} (p0 : 0 < p) (hb : 0 ≤ b) (h : Fit F.mem p b) :
    (F.l.length : Int) ≤ p ∧ (F.r.length : Int) ≤ p ∧ p % F.l.length = 0 ∧ p % F.r.length = 0 ∧ F.high ≤ b ∧ -b - 2 * p ≤ F.low := by
  have h1 := L.l_le p0 h.2
  have h2 := L.r_le p0 h.1
  have h3 := L.low_ge p0 (by omega) h.2
  exact ⟨h1, h2, L.l_dvd h.2, L.r_dvd h.1, L.high_le p0 hb h.1, by omega⟩
/-! ### least_form, stage by stage -/
theorem root_pre {l s : List Bool} (h : l ≠ []) (hs : s ≠ []) (e : ∀ z, cyc s z = cyc l z) (p : Prim s) : s ≠ [] ∧ Prim s ∧ ∀ z, cyc s z = cyc l z := ⟨hs, p, e⟩
/-- a row's root -/
structure IsRoot (l s : List Bool) : Prop where
  ne : s ≠ []
  pr : Prim s
  eq : ∀ z, cyc s z = cyc l z
theorem isRoot_self {l : List Bool} (h : l ≠ []) (hb : ∀ t, 1 ≤ t → t < l.length → ¬ Root l t) : IsRoot l l := ⟨h, root_none h hb, fun _ => rfl⟩
theorem isRoot_take {l : List Bool} {s : Nat} (h0 : 1 ≤ s) (hs : s < l.length) (h : Root l s) (hb : ∀ t, 1 ≤ t → t < s → ¬ Root l t) : IsRoot l (l.take s) :=
  ⟨fun e => by have : (l.take s).length = s := by rw [List.length_take]; omega
               rw [e] at this; simp at this; omega, root_some h0 hs h hb, fun z => h.cyc h0 (by omega) z⟩
/-- the right side begins j days earlier -/
theorem mem_back {l m r : List Bool} {low : Int} (r0 : r ≠ []) {j : Nat} (hj : j ≤ m.length) (h : ∀ i, i < j → m.getD (m.length - 1 - i) false = cyc r (-1 - (i : Int))) (n : Int) :
    (Frm.mk l low (m.take (m.length - j)) (turn r (-(j : Int)))).mem n = (Frm.mk l low m r).mem n := by
  have hl : (m.take (m.length - j)).length = m.length - j := by rw [List.length_take]; omega
  have hh : (Frm.mk l low (m.take (m.length - j)) (turn r (-(j : Int)))).high = low + m.length - j := by unfold Frm.high; simp only [hl]; omega
  have hh' : (Frm.mk l low m r).high = low + m.length := rfl
  rcases Int.lt_or_le n low with q | q
  · rw [Frm.mem_dn _ (by exact q), Frm.mem_dn _ (by exact q)]
  · rcases Int.lt_or_le n (low + m.length - j) with q2 | q2
    · rw [Frm.mem_mid _ (by exact q) (by rw [hh]; exact q2), Frm.mem_mid _ (by exact q) (by rw [hh']; omega)]
      exact take_getD _ (by show (n - low).toNat < _; omega)
    · rw [Frm.mem_up _ (by rw [hh]; exact q2), hh]
      show cyc (turn r _) _ = _
      rw [turn_cyc r0]
      rcases Int.lt_or_le n (low + m.length) with q3 | q3
      · rw [Frm.mem_mid _ (by exact q) (by rw [hh']; exact q3)]
        have := h (low + m.length - 1 - n).toNat (by omega)
        show _ = m.getD (n - low).toNat false
        rw [show (n - low).toNat = m.length - 1 - (low + m.length - 1 - n).toNat by omega, this]
        congr 1
        omega
      · rw [Frm.mem_up _ (by rw [hh']; exact q3), hh']
        show cyc r _ = cyc r _
        congr 1
        omega
/-- the left side ends j days later -/
theorem mem_fore {l m r : List Bool} {low : Int} (l0 : l ≠ []) {j : Nat} (hj : j ≤ m.length) (h : ∀ i, i < j → m.getD i false = cyc l (i : Int)) (n : Int) :
    (Frm.mk (turn l j) (low + j) (m.drop j) r).mem n = (Frm.mk l low m r).mem n := by
  have hh : (Frm.mk (turn l j) (low + j) (m.drop j) r).high = low + m.length := by
    unfold Frm.high
    simp only [List.length_drop]
    omega
  have hh' : (Frm.mk l low m r).high = low + m.length := rfl
  rcases Int.lt_or_le n (low + m.length) with q | q
  · rcases Int.lt_or_le n (low + j) with q2 | q2
    · rw [Frm.mem_dn _ (by exact q2)]
      show cyc (turn l j) _ = _
      rw [turn_cyc l0]
      rcases Int.lt_or_le n low with q3 | q3
      · rw [Frm.mem_dn _ (by exact q3)]
        show cyc l _ = cyc l _
        congr 1
        show n - (low + (j : Int)) + j = n - low
        omega
      · rw [Frm.mem_mid _ (by exact q3) (by rw [hh']; exact q)]
        show _ = m.getD (n - low).toNat false
        rw [h _ (show (n - low).toNat < j by omega)]
        congr 1
        show n - (low + (j : Int)) + j = ((n - low).toNat : Int)
        omega
    · rw [Frm.mem_mid _ (by exact q2) (by rw [hh]; exact q), Frm.mem_mid _ (by show low ≤ n; omega) (by rw [hh']; exact q)]
      show (m.drop j).getD (n - (low + j)).toNat false = m.getD (n - low).toNat false
      rw [List.getD_eq_getElem?_getD, List.getElem?_drop, ← List.getD_eq_getElem?_getD]
      congr 1
      omega
  · rw [Frm.mem_up _ (by rw [hh]; exact q), Frm.mem_up _ (by rw [hh']; exact q), hh, hh']
/-- both sides moved where there is no middle -/
theorem mem_bare {l r : List Bool} {low : Int} (l0 : l ≠ []) (r0 : r ≠ []) {j : Nat} (h : ∀ i, i < j → cyc l (-1 - (i : Int)) = cyc r (-1 - (i : Int))) (n : Int) :
    (Frm.mk (turn l (-(j : Int))) (low - j) [] (turn r (-(j : Int)))).mem n = (Frm.mk l low [] r).mem n := by
  have hh : (Frm.mk (turn l (-(j : Int))) (low - j) [] (turn r (-(j : Int)))).high = low - j := by unfold Frm.high; simp
  have hh' : (Frm.mk l low [] r).high = low := by unfold Frm.high; simp
  rcases Int.lt_or_le n (low - j) with q | q
  · rw [Frm.mem_dn _ (by exact q), Frm.mem_dn _ (by show n < low; omega)]
    show cyc (turn l _) _ = cyc l _
    rw [turn_cyc l0]
    congr 1
    show n - (low - (j : Int)) + -(j : Int) = n - low
    omega
  · rw [Frm.mem_up _ (by rw [hh]; exact q), hh]
    show cyc (turn r _) _ = _
    rw [turn_cyc r0]
    rcases Int.lt_or_le n low with q2 | q2
    · rw [Frm.mem_dn _ (by exact q2)]
      show _ = cyc l (n - low)
      have := h (low - 1 - n).toNat (by omega)
      rw [show -1 - (((low - 1 - n).toNat : Nat) : Int) = n - low by omega] at this
      rw [this]
      congr 1
      omega
    · rw [Frm.mem_up _ (by rw [hh']; exact q2), hh']
      show cyc r _ = cyc r _
      congr 1
      omega
/-- two least rows that are unlike part somewhere below -/
theorem bare_part {l r : List Bool} (l0 : l ≠ []) (r0 : r ≠ []) (pl : Prim l) (pr : Prim r) (h : l ≠ r) : ∃ i : Nat, i < l.length * r.length ∧ cyc l (-1 - (i : Int)) ≠ cyc r (-1 - (i : Int)) := by
  have ll := prim_len l0
  have lr := prim_len r0
  refine Classical.byContradiction fun no => h ?_
  have all : ∀ i : Nat, i < l.length * r.length → cyc l (-1 - (i : Int)) = cyc r (-1 - (i : Int)) := fun i hi => Classical.byContradiction fun q => no ⟨i, hi, q⟩
  have N0 : (0 : Int) < ((l.length * r.length : Nat) : Int) := by
    have := Nat.mul_pos ll lr
    omega
  have eqf : ∀ z : Int, cyc l z = cyc r z := fun z => by
    have m0 := Int.emod_nonneg (-1 - z) (show ((l.length * r.length : Nat) : Int) ≠ 0 by omega)
    have m1 := Int.emod_lt_of_pos (-1 - z) N0
    have e := all ((-1 - z) % ((l.length * r.length : Nat) : Int)).toNat (by omega)
    rw [Int.toNat_of_nonneg m0] at e
    have e2 : (-1 - z) % ((l.length * r.length : Nat) : Int) = -1 - z - (-1 - z) / ((l.length * r.length : Nat) : Int) * ((l.length * r.length : Nat) : Int) := by
      have := Int.mul_ediv_add_emod (-1 - z) ((l.length * r.length : Nat) : Int)
      rw [Int.mul_comm] at this
      omega
    generalize (-1 - z) / ((l.length * r.length : Nat) : Int) = K at e2
    have a1 : cyc l z = cyc l (z + K * r.length * l.length) := (cyc_per.at z (K * r.length)).symm
    have a2 : cyc r z = cyc r (z + K * l.length * r.length) := (cyc_per.at z (K * l.length)).symm
    have k1 : K * ((l.length * r.length : Nat) : Int) = K * r.length * l.length := by
      rw [Int.natCast_mul, Int.mul_assoc, Int.mul_comm (r.length : Int)]
    have k2 : K * ((l.length * r.length : Nat) : Int) = K * l.length * r.length := by
      rw [Int.natCast_mul, Int.mul_assoc]
    rw [e2] at e
    rw [a1, a2, ← k1, ← k2]
    rw [show -1 - (-1 - z - K * ((l.length * r.length : Nat) : Int)) = z + K * ((l.length * r.length : Nat) : Int) by omega] at e
    exact e
  have hf : cyc l = cyc r := funext eqf
  refine cyc_ext ?_ eqf
  have a := pl r.length (by omega) (by rw [hf]; exact cyc_per)
  have b := pr l.length (by omega) (by rw [← hf]; exact cyc_per)
  omega
/-- what least_form gives, by its ways -/
theorem least_bare_all {r : List Bool} (low : Int) (r0 : r ≠ []) (pr : Prim r) :
    Least ⟨turn r (-low), 0, [], turn r (-low)⟩ ∧ ∀ n, (Frm.mk (turn r (-low)) 0 [] (turn r (-low))).mem n = (Frm.mk r low [] r).mem n := by
  refine ⟨⟨turn_ne r0, turn_ne r0, turn_prim r0 _ pr, turn_prim r0 _ pr, .inr (.inl ⟨rfl, rfl, rfl⟩)⟩, fun n => ?_⟩
  have hh : (Frm.mk (turn r (-low)) 0 [] (turn r (-low))).high = 0 := by unfold Frm.high; simp
  have hh' : (Frm.mk r low [] r).high = low := by unfold Frm.high; simp
  have e1 : (Frm.mk (turn r (-low)) 0 [] (turn r (-low))).mem n = cyc r (n - low) := by
    rcases Int.lt_or_le n 0 with q | q
    · rw [Frm.mem_dn _ (by exact q)]
      show cyc (turn r _) _ = _
      rw [turn_cyc r0]
      congr 1
      show n - 0 + -low = n - low
      omega
    · rw [Frm.mem_up _ (by rw [hh]; exact q), hh]
      show cyc (turn r _) _ = _
      rw [turn_cyc r0]
      congr 1
      omega
  rw [e1]
  rcases Int.lt_or_le n low with q | q
  · rw [Frm.mem_dn _ (by exact q)]
  · rw [Frm.mem_up _ (by rw [hh']; exact q), hh']
theorem least_bare {l r : List Bool} (low : Int) (l0 : l ≠ []) (r0 : r ≠ []) (pl : Prim l) (pr : Prim r) {j : Nat}
    (h : ∀ i, i < j → cyc l (-1 - (i : Int)) = cyc r (-1 - (i : Int))) (hj : cyc l (-1 - (j : Int)) ≠ cyc r (-1 - (j : Int))) :
    Least ⟨turn l (-(j : Int)), low - j, [], turn r (-(j : Int))⟩ ∧ ∀ n, (Frm.mk (turn l (-(j : Int))) (low - j) [] (turn r (-(j : Int)))).mem n = (Frm.mk l low [] r).mem n := by
  refine ⟨⟨turn_ne l0, turn_ne r0, turn_prim l0 _ pl, turn_prim r0 _ pr, .inr (.inr ⟨rfl, ?_⟩)⟩, mem_bare l0 r0 h⟩
  have hh : (Frm.mk (turn l (-(j : Int))) (low - j) [] (turn r (-(j : Int)))).high = low - j := by unfold Frm.high; simp
  have lr := prim_len r0
  rw [Frm.mem_dn _ (show _ < low - (j : Int) by rw [hh]; omega), Frm.mem_up _ (by rw [hh]; show _ ≤ low - j - 1 + ((turn r _).length : Int); rw [turn_len]; omega), hh]
  show cyc (turn l _) _ ≠ cyc (turn r _) _
  rw [turn_cyc l0, turn_cyc r0, turn_len]
  show cyc l (low - j - 1 - (low - j) + -(j : Int)) ≠ cyc r (low - j - 1 + r.length - (low - j) + -(j : Int))
  rw [show low - (j : Int) - 1 - (low - j) + -(j : Int) = -1 - j by omega, show low - (j : Int) - 1 + r.length - (low - j) + -(j : Int) = -1 - j + r.length by omega, cyc_per]
  exact hj
/-- with a middle whose last day is odd -/
theorem least_mid {l m r : List Bool} (low : Int) (l0 : l ≠ []) (r0 : r ≠ []) (pl : Prim l) (pr : Prim r) (m0 : m ≠ []) (hr : m.getD (m.length - 1) false ≠ cyc r (-1)) {j : Nat} (hj : j ≤ m.length)
    (h : ∀ i, i < j → m.getD i false = cyc l (i : Int)) (he : j = m.length ∨ m.getD j false ≠ cyc l (j : Int)) :
    Least ⟨turn l j, low + j, m.drop j, r⟩ ∧ ∀ n, (Frm.mk (turn l j) (low + j) (m.drop j) r).mem n = (Frm.mk l low m r).mem n := by
  have lm := prim_len m0
  have lr := prim_len r0
  have ll := prim_len l0
  have hm := mem_fore (low := low) (r := r) l0 hj h
  have hh : (Frm.mk (turn l j) (low + j) (m.drop j) r).high = low + m.length := by
    unfold Frm.high
    simp only [List.length_drop]
    omega
  have hh' : (Frm.mk l low m r).high = low + m.length := rfl
  have odd : (Frm.mk (turn l j) (low + j) (m.drop j) r).mem (low + m.length - 1) ≠ (Frm.mk (turn l j) (low + j) (m.drop j) r).mem (low + m.length - 1 + r.length) := by
    rw [hm, hm, Frm.mem_mid _ (show low ≤ _ by omega) (by rw [hh']; omega), Frm.mem_up _ (by rw [hh']; omega), hh']
    show m.getD (low + m.length - 1 - low).toNat false ≠ cyc r _
    rw [show (low + (m.length : Int) - 1 - low).toNat = m.length - 1 by omega, show low + (m.length : Int) - 1 + r.length - (low + m.length) = -1 + r.length by omega, cyc_per]
    exact hr
  refine ⟨⟨turn_ne l0, r0, turn_prim l0 _ pl, pr, ?_⟩, hm⟩
  rw [hh]
  by_cases q : j = m.length
  · refine .inr (.inr ⟨?_, odd⟩)
    show m.drop j = []
    rw [q]
    exact List.drop_length
  · refine .inl ⟨fun e => ?_, odd, ?_⟩
    · have : (m.drop j).length = 0 := by rw [show m.drop j = [] from e]; rfl
      rw [List.length_drop] at this
      omega
    · have hne := he.resolve_left q
      rw [hm, hm]
      show (Frm.mk l low m r).mem (low + j) ≠ (Frm.mk l low m r).mem (low + j - ((turn l j).length : Int))
      rw [turn_len, Frm.mem_mid _ (show low ≤ _ by omega) (by rw [hh']; omega)]
      show m.getD (low + j - low).toNat false ≠ _
      rw [show (low + (j : Int) - low).toNat = j by omega]
      have e2 : (Frm.mk l low m r).mem (low + j - (l.length : Int)) = cyc l j := by
        rcases Int.lt_or_le (low + j - (l.length : Int)) low with z | z
        · rw [Frm.mem_dn _ (by exact z)]
          show cyc l (low + j - l.length - low) = _
          have := cyc_per (l := l) (low + j - l.length - low)
          rw [← this]
          congr 1
          omega
        · rw [Frm.mem_mid _ (by exact z) (by rw [hh']; omega)]
          show m.getD (low + j - l.length - low).toNat false = _
          rw [h _ (show (low + (j : Int) - l.length - low).toNat < j by omega)]
          have := cyc_per (l := l) ((low + (j : Int) - l.length - low).toNat : Int)
          rw [← this]
          congr 1
          omega
      rw [e2]
      exact hne
/-- a form from a window of a function's signs -/
theorem form_of {f : Int → Bool} {row : List Bool} {low : Int} {a b : Nat} (a0 : 0 < a) (b0 : 0 < b) (hl : a + b ≤ row.length) (h : ∀ i, i < row.length → row.getD i false = f (low - a + i))
    (hu : Up f b (low + (row.length - a - b : Nat))) (hd : Dn f a low) (n : Int) : (Frm.mk (row.take a) low ((row.drop a).take (row.length - a - b)) (row.drop (row.length - b))).mem n = f n := by
  have l1 : (row.take a).length = a := by rw [List.length_take]; omega
  have l2 : ((row.drop a).take (row.length - a - b)).length = row.length - a - b := by rw [List.length_take, List.length_drop]; omega
  have l3 : (row.drop (row.length - b)).length = b := by rw [List.length_drop]; omega
  have hh : (Frm.mk (row.take a) low ((row.drop a).take (row.length - a - b)) (row.drop (row.length - b))).high = low + (row.length - a - b : Nat) := by unfold Frm.high; simp only [l2]
  rcases Int.lt_or_le n low with q | q
  · rw [Frm.mem_dn _ (by exact q)]
    show cyc (row.take a) (n - low) = f n
    have m0 := Int.emod_nonneg (n - low) (show (a : Int) ≠ 0 by omega)
    have m1 := Int.emod_lt_of_pos (n - low) (show (0 : Int) < a by omega)
    have e1 : cyc (row.take a) (n - low) = row.getD ((n - low) % (a : Int)).toNat false := by
      unfold cyc
      rw [l1]
      exact take_getD _ (by omega)
    rw [e1, h _ (by omega), Int.toNat_of_nonneg m0]
    have e2 := Int.mul_ediv_add_emod (n - low) (a : Int)
    have e3 : 0 ≤ -((n - low) / (a : Int)) - 1 := by
      have := Int.ediv_neg_of_neg_of_pos (show n - low < 0 by omega) (show (0 : Int) < a by omega)
      omega
    have e4 := hd.nat (by omega) (-((n - low) / (a : Int)) - 1).toNat (low - a + (n - low) % (a : Int)) (by omega)
    rw [← e4, Int.toNat_of_nonneg e3]
    congr 1
    rw [Int.sub_mul, Int.neg_mul, Int.mul_comm ((n - low) / (a : Int))]
    omega
  · rcases Int.lt_or_le n (low + (row.length - a - b : Nat)) with q2 | q2
    · rw [Frm.mem_mid _ (by exact q) (by rw [hh]; exact q2)]
      show ((row.drop a).take (row.length - a - b)).getD (n - low).toNat false = f n
      rw [take_getD _ (by omega), List.getD_eq_getElem?_getD, List.getElem?_drop, ← List.getD_eq_getElem?_getD, h _ (by omega)]
      congr 1
      omega
    · rw [Frm.mem_up _ (by rw [hh]; exact q2), hh]
      show cyc (row.drop (row.length - b)) (n - (low + (row.length - a - b : Nat))) = f n
      generalize hz : n - (low + ((row.length - a - b : Nat) : Int)) = z
      have m0 := Int.emod_nonneg z (show (b : Int) ≠ 0 by omega)
      have m1 := Int.emod_lt_of_pos z (show (0 : Int) < b by omega)
      have e1 : cyc (row.drop (row.length - b)) z = row.getD (row.length - b + (z % (b : Int)).toNat) false := by
        unfold cyc
        rw [l3, List.getD_eq_getElem?_getD, List.getElem?_drop, ← List.getD_eq_getElem?_getD]
      rw [e1, h _ (by omega)]
      have e2 := Int.mul_ediv_add_emod z (b : Int)
      have e3 : 0 ≤ z / (b : Int) := Int.ediv_nonneg (by omega) (by omega)
      have e4 := hu.nat (by omega) (z / (b : Int)).toNat (low - a + ((row.length - b + (z % (b : Int)).toNat : Nat) : Int)) (by omega)
      rw [← e4, Int.toNat_of_nonneg e3]
      congr 1
      rw [Int.mul_comm (z / (b : Int))]
      omega
end Day
end
section
set_option Elab.async false
set_option linter.all false
set_option maxRecDepth 100000
set_option maxHeartbeats 2000000
/-! own operators, texts, classmethods: rules that the hand layer lacks -/
namespace Od
open PySem PySem.Spec PyProof.Rows L2
section
variable {X : Cx} {pins : List (Addr × Obj)} {σ : L2.St} {H : Hp} {s : Shared} {CX : CXT} {k : Nat} {f C : Addr} {sp : Sp} {E : XK} {Q : VK} {us : List Value} {vs : List V} {A : Around}
theorem vr1 (a : Addr) : Vals [V.ref a] [Value.ref a] := .cons rfl .nil
theorem vr2 (a b : Addr) : Vals [V.ref a, V.ref b] [Value.ref a, Value.ref b] := .cons rfl (.cons rfl .nil)
theorem vrx {x : V} {v : Value} (a : Addr) (r : RelV x v) : Vals [V.ref a, x] [Value.ref a, v] := .cons rfl (.cons r .nil)
theorem rvi (n : Int) (t : Tok) : RelV (.int n) (Value.int n t) := ⟨t, rfl⟩
/-- a def called somewhere below the running body -/
theorem fn_at (hA : A.frames = X.A.frames) (hr : Room k A) (F : FnR X.prog X.w X.K X.mg X.base CX k f sp) (hx : Passes CX X E) (I : Inv X pins σ H s) (r : Vals vs us) (h : sp vs H Q E) :
    wpAny (model X.prog X.w) A (call (.ref f) us) (EP X pins σ Q) X.xe s := by
  have e := I.env0
  have e0 : Env0 X.prog X.w X.K X.mg X.base A X.stack s H := ⟨by rw [hA]; exact e.frames, e.mod, e.bs, e.bsz, e.funs, e.frf, e.hok, e.bare⟩
  refine wpAny_call (codeAny_mono (F A X.stack s H us vs Q E hr e0 r h) fun r s' hq => ?_)
  cases r with
  | error e => exact hx pins σ H s e s' I hq
  | ok fl =>
    cases fl with
    | ret u => exact I.after hq
    | next => exact False.elim hq
    | brk => exact False.elim hq
    | cont => exact False.elim hq
theorem cmp_back {u : Value} {s' : Shared} (h : EP X pins σ Q u s') : PySem.W.CmpBack (EP X pins σ Q) u s' := by
  obtain ⟨v, H', I, r, q⟩ := id h
  cases v with
  | non => cases r; exact h
  | bl b => cases r; exact h
  | int i => obtain ⟨t, rfl⟩ := r; exact h
  | str x => obtain ⟨t, rfl⟩ := r; exact h
  | byt b => obtain ⟨t, rfl⟩ := r; exact h
  | flt b => obtain ⟨t, rfl⟩ := r; exact h
  | ref a => cases r; exact h
  | ty n => cases r; exact h
theorem inst_of {a dx : Addr} {fs : List (Str × V)} (I : Inv X pins σ H s) (h : H a = some (.ins C dx fs)) : ∃ od, PySem.W.InstAt s.heap a (PySem.W.instObj C dx) C (some od) := by
  obtain ⟨mA, J, _⟩ := ins_get I.hok h
  obtain ⟨od, J, _⟩ := J.look
  exact ⟨od, J⟩
/-- what the text says of a special method: class C, name nm, def f -/
structure Sm (K : PySem.W.Frag) (C : Addr) (nm : Str) (f : Addr) : Prop where
  at_ : PySem.W.findIn K (.ref C) nm = some (some (.ref f))
  fn : PySem.W.isFn K (.ref f) = true
/-- x op y, both instances of C -/
def rOwn (C : Addr) (sp : Sp) (E : XK) : R2 := fun x y H Q => ∃ a b dx dy fs gs, x = .ref a ∧ y = .ref b ∧ H a = some (.ins C dx fs) ∧ H b = some (.ins C dy gs) ∧ sp [.ref a, .ref b] H Q E
theorem op_own {op : Operator} (hc : PySem.W.selfFirst X.K C = true) (S : Sm X.K C (PySem.dunder op.info.2) f) (F : FnR X.prog X.w X.K X.mg X.base CX k f sp) (hr : Room k X.A) (hx : Passes CX X E) : OpR X (binaryOp op) (rOwn C sp E) := by
  intro pins s σ H x y v u Q I rx ry h
  obtain ⟨a, b, dx, dy, fs, gs, rfl, rfl, ha, hb, q⟩ := h
  cases rx
  cases ry
  obtain ⟨od, J⟩ := inst_of I ha
  obtain ⟨od', J'⟩ := inst_of I hb
  obtain ⟨m, hF⟩ := I.fr
  exact PySem.W.binop_K hF I.ok.mod.kin J J'.type hc S.at_ S.fn (wpAny_mono (fn_at rfl hr F hx I (vr2 a b) q) (fun w s' z => cmp_back z) fun _ _ z => z)
/-- x op n, x an instance of C, n an int -/
def rOwnI (C : Addr) (sp : Sp) (E : XK) : R2 := fun x y H Q => ∃ a n dx fs, x = .ref a ∧ y = .int n ∧ H a = some (.ins C dx fs) ∧ sp [.ref a, .int n] H Q E
theorem op_ownI {op : Operator} {fo ro : Option Value} (hc : PySem.W.selfFirst X.K C = true) (S : Sm X.K C (PySem.dunder op.info.2) f) (hR : PySem.W.findIn X.K (.ref C) (dunderR op.info.2) = some none)
    (h1 : PySem.W.findIn X.K (.type "int") (PySem.dunder op.info.2) = some fo) (h2 : PySem.W.findIn X.K (.type "int") (dunderR op.info.2) = some ro) (hU : PySem.W.subIn X.K (.type "int") (.ref C) = some false)
    (F : FnR X.prog X.w X.K X.mg X.base CX k f sp) (hr : Room k X.A) (hx : Passes CX X E) : OpR X (binaryOp op) (rOwnI C sp E) := by
  intro pins s σ H x y v u Q I rx ry h
  obtain ⟨a, n, dx, fs, rfl, rfl, ha, q⟩ := h
  cases rx
  obtain ⟨t, rfl⟩ := ry
  obtain ⟨od, J⟩ := inst_of I ha
  obtain ⟨m, hF⟩ := I.fr
  exact PySem.W.ksp_binT (T := "int") hF I.ok.mod.kin J rfl hc S.at_ S.fn hR (.inl rfl) h1 h2 hU (wpAny_mono (fn_at rfl hr F hx I (vrx a (rvi n t)) q) (fun w s' z => cmp_back z) fun _ _ z => z)
/-- op x -/
def rOwnU (C : Addr) (sp : Sp) (E : XK) : V → Hp → VK → Prop := fun x H Q => ∃ a dx fs, x = .ref a ∧ H a = some (.ins C dx fs) ∧ sp [.ref a] H Q E
theorem un_ownNeg (S : Sm X.K C "__neg__" f) (F : FnR X.prog X.w X.K X.mg X.base CX k f sp) (hr : Room k X.A) (hx : Passes CX X E) : UnR X (unaryOp .USub) (rOwnU C sp E) := by
  intro pins s σ H x v Q I rx h
  obtain ⟨a, dx, fs, rfl, ha, q⟩ := h
  cases rx
  obtain ⟨od, J⟩ := inst_of I ha
  obtain ⟨m, hF⟩ := I.fr
  exact PySem.W.ksp_neg hF I.ok.mod.kin J S.at_ S.fn (fn_at rfl hr F hx I (vr1 a) q)
theorem un_ownInv (S : Sm X.K C "__invert__" f) (F : FnR X.prog X.w X.K X.mg X.base CX k f sp) (hr : Room k X.A) (hx : Passes CX X E) : UnR X (unaryOp .Invert) (rOwnU C sp E) := by
  intro pins s σ H x v Q I rx h
  obtain ⟨a, dx, fs, rfl, ha, q⟩ := h
  cases rx
  obtain ⟨od, J⟩ := inst_of I ha
  obtain ⟨m, hF⟩ := I.fr
  exact PySem.W.ksp_inv hF I.ok.mod.kin J S.at_ S.fn (fn_at rfl hr F hx I (vr1 a) q)
/-- x == y, x <= y ..: any value back -/
theorem op_ownCmp {op : CmpOp} (hop : ∀ v u, compareOp op v u = richCompare op v u) (S : Sm X.K C (cmpInfo op).2.1 f) (F : FnR X.prog X.w X.K X.mg X.base CX k f sp) (hr : Room k X.A) (hx : Passes CX X E) : OpR X (compareOp op) (rOwn C sp E) := by
  intro pins s σ H x y v u Q I rx ry h
  obtain ⟨a, b, dx, dy, fs, gs, rfl, rfl, ha, hb, q⟩ := h
  cases rx
  cases ry
  obtain ⟨od, J⟩ := inst_of I ha
  obtain ⟨od', J'⟩ := inst_of I hb
  obtain ⟨m, hF⟩ := I.fr
  rw [hop]
  exact PySem.W.cmp_K (tb := .ref C) hr.units0 hF I.ok.mod.kin J J'.type (by simp [PySem.W.notFirst]) S.at_ S.fn (wpAny_mono (fn_at rfl hr F hx I (vr2 a b) q) (fun w s' z => cmp_back z) fun _ _ z => z)
/-- x in y, y an instance of C with __contains__ that gives a bool -/
def rOwnIn (C : Addr) (sp : Sp) (E : XK) (neg : Bool) : R2 := fun x y H Q => ∃ a dx fs, y = .ref a ∧ H a = some (.ins C dx fs) ∧ sp [.ref a, x] H (fun r H' => ∃ b, r = .bl b ∧ Q (.bl (if neg then !b else b)) H') E
theorem op_ownIn (S : Sm X.K C "__contains__" f) (F : FnR X.prog X.w X.K X.mg X.base CX k f sp) (hr : Room k X.A) (hx : Passes CX X E) : OpR X (compareOp .In) (rOwnIn C sp E false) := by
  intro pins s σ H x y v u Q I rx ry h
  obtain ⟨a, dx, fs, rfl, ha, q⟩ := h
  cases ry
  obtain ⟨od, J⟩ := inst_of I ha
  obtain ⟨m, hF⟩ := I.fr
  refine PySem.W.in_K hF I.ok.mod.kin J S.at_ S.fn (wpAny_mono (fn_at rfl hr F hx I (vrx a rx) q) (fun w s' z => ?_) fun _ _ z => z)
  obtain ⟨v', H', I', r', b, rfl, q'⟩ := z
  cases r'
  exact wpAny_truthy_bool ⟨V.bl b, H', I', rfl, q'⟩
theorem op_ownNotIn (S : Sm X.K C "__contains__" f) (F : FnR X.prog X.w X.K X.mg X.base CX k f sp) (hr : Room k X.A) (hx : Passes CX X E) : OpR X (compareOp .NotIn) (rOwnIn C sp E true) := by
  intro pins s σ H x y v u Q I rx ry h
  obtain ⟨a, dx, fs, rfl, ha, q⟩ := h
  cases ry
  obtain ⟨od, J⟩ := inst_of I ha
  obtain ⟨m, hF⟩ := I.fr
  refine PySem.W.notIn_K hF I.ok.mod.kin J S.at_ S.fn (wpAny_mono (fn_at rfl hr F hx I (vrx a rx) q) (fun w s' z => ?_) fun _ _ z => z)
  obtain ⟨v', H', I', r', b, rfl, q'⟩ := z
  cases r'
  exact wpAny_truthy_bool ⟨V.bl (!b), H', I', rfl, q'⟩
/-- the truth of an instance by __bool__ -/
def rTru (C : Addr) (sp : Sp) (E : XK) : V → Hp → (Bool → Hp → Prop) → Prop := fun x H Q => ∃ a dx fs, x = .ref a ∧ H a = some (.ins C dx fs) ∧ sp [.ref a] H (fun r H' => ∃ b, r = .bl b ∧ Q b H') E
theorem tru_own (S : Sm X.K C "__bool__" f) (F : FnR X.prog X.w X.K X.mg X.base CX k f sp) (hr : Room k X.A) (hx : Passes CX X E) : TruR X (rTru C sp E) := by
  intro pins s σ H x v Q I rx h
  obtain ⟨a, dx, fs, rfl, ha, q⟩ := h
  cases rx
  obtain ⟨od, J⟩ := inst_of I ha
  obtain ⟨m, hF⟩ := I.fr
  refine PySem.W.truthy_K hF I.ok.mod.kin J S.at_ S.fn (wpAny_mono (fn_at rfl hr F hx I (vr1 a) q) (fun w s' z => ?_) fun _ _ z => z)
  obtain ⟨v', H', I', r', b, rfl, q'⟩ := z
  cases r'
  exact ⟨H', I', q'⟩
/-- str(x) by __str__ -/
theorem Room.in2 {A : Around} (r : Room (k + 1) A) : Room k A.in1.in1 :=
  ⟨r.hd, by have := r.dp; show A.depth + 3 * k + 5 < _; omega, by have := r.un; show A.units + 1 + 1 + 16 * k + 200 < _; omega⟩
def rStr (C : Addr) (sp : Sp) (E : XK) : List V → Hp → VK → Prop := fun xs H Q => ∃ a dx fs, xs = [.ref a] ∧ H a = some (.ins C dx fs) ∧ sp [.ref a] H (fun r H' => ∃ z, r = .str z ∧ Q (.str z) H') E
theorem call_str_own (S : Sm X.K C "__str__" f) (F : FnR X.prog X.w X.K X.mg X.base CX k f sp) (hr : Room (k + 1) X.A) (hx : Passes CX X E) : CallR X (.type "str") (rStr C sp E) := by
  intro pins s σ H xs us Q I r h
  obtain ⟨a, dx, fs, rfl, ha, q⟩ := h
  cases r.ref1
  obtain ⟨od, J⟩ := inst_of I ha
  have hr2 := Room.in2 hr
  refine PySem.W.kso_call hr2.units0 I.kIn J S.at_ S.fn (wpAny_mono (fn_at (A := X.A.in1.in1) rfl hr2 F hx I (vr1 a) q) (fun w s' z => ?_) fun _ _ z => z)
  obtain ⟨v', H', I', r', b, rfl, q'⟩ := z
  obtain ⟨t, rfl⟩ := r'
  exact ⟨V.str b, H', I', ⟨t, rfl⟩, q'⟩
/-- x != y by the inherited __ne__, over an own __eq__ that gives a bool -/
def rOwnNe (C : Addr) (sp : Sp) (E : XK) : R2 := fun x y H Q => ∃ a b dx dy fs gs, x = .ref a ∧ y = .ref b ∧ H a = some (.ins C dx fs) ∧ H b = some (.ins C dy gs) ∧ sp [.ref a, .ref b] H (fun r H' => ∃ e, r = .bl e ∧ Q (.bl (!e)) H') E
theorem ne_lookup {K : PySem.W.Frag} {C : Addr} (h : PySem.W.findIn K (.ref C) "__ne__" = some (some (.builtin "object.__ne__"))) : PySem.W.findIn K (.ref C) "__ne__" = some (some (.builtin "object.__ne__")) := h
theorem slot_ne : Slot "object" "__ne__" "object.__ne__" :=
  .of (owner := "object") (n := "__ne__") (by rw [typeLookup_type, builtinLookup_eq_fast]; kernel_rfl) (by decide +kernel) (by decide +kernel) (by decide +kernel)
    (by first | exact .inl (by decide +kernel) | exact .inr (by decide +kernel)) (by rw [isSubtype_type]; kernel_rfl)
theorem ifBound_ne {M : Model} {A : Around} {E : Value → Shared → Prop} {s : Shared} {K : PySem.W.Frag} {x C : Addr} {ox : Obj} {od : Option Obj} {args : List Value} {Q : Option Value → Shared → Prop} (X : K.In s.heap) (I : PySem.W.InstAt s.heap x ox C od)
    (hs : PySem.W.findIn K (.ref C) "__ne__" = some (some (.builtin "object.__ne__")))
    (h : wpAny M A (call (.builtin "object.__ne__") (.ref x :: args)) (fun v => Q (some v)) E s) : wpAny M A (callSpecialIfBound? (.ref x) "__ne__" args) Q E s := by
  simp only [callSpecialIfBound?, bindSpecialIfBound?]
  refine wpAny_holding (wpAny_bind (wpAny_bind (wpAny_bind (I.type.here ((PySem.W.looks_findIn X hs).here ?_)))))
  refine wpAny_bind (wpAny_askSetting (wpAny_ite ?_))
  have fin : wpAny M A (call (.builtin "object.__ne__") ([.ref x] ++ args) >>= fun v => pure (some v)) Q E s := wpAny_bind (wpAny_mono h (fun v s' h' => wpAny_pure h') fun _ _ h' => h')
  have hb := slot_ne.bind (.ref x)
  split
  · refine wpAny_bind (wpAny_of_eq hb (wpAny_pure (by exact fin)))
  · refine wpAny_tryCatch (wpAny_bind (wpAny_of_eq hb (wpAny_pure (by exact fin))))
theorem op_ownNe (S : Sm X.K C "__eq__" f) (N : PySem.W.findIn X.K (.ref C) "__ne__" = some (some (.builtin "object.__ne__"))) (O : PySem.W.mroIn X.K C (.type "object") = some true) (F : FnR X.prog X.w X.K X.mg X.base CX k f sp) (hr : Room (k + 1) X.A) (hx : Passes CX X E) :
    OpR X (compareOp .NotEq) (rOwnNe C sp E) := by
  intro pins s σ H x y v u Q I rx ry h
  obtain ⟨a, b, dx, dy, fs, gs, rfl, rfl, ha, hb, q⟩ := h
  cases rx
  cases ry
  obtain ⟨od, J⟩ := inst_of I ha
  obtain ⟨od', J'⟩ := inst_of I hb
  have hr1 := hr.in1
  show wpAny (model X.prog X.w) X.A (richCompare .NotEq (.ref a) (.ref b)) (EP X pins σ Q) X.xe s
  have one : wpAny (model X.prog X.w) X.A (tryCompare (.ref a) "__ne__" (.ref b)) (fun r s' => ∃ v, r = some v ∧ EP X pins σ Q v s') X.xe s := by
    unfold tryCompare
    refine wpAny_bind (ifBound_ne I.kIn J N ?_)
    refine wpAny_call (codeAny_call_builtin slot_ne.plain PySem.F.cmpEntry_ne (@PySem.W.check_slot (model X.prog X.w) _ _ s "object.__ne__" "object" "__ne__" (.ref a) [.ref b] [] _ PySem.F.cmpKind_ne PySem.F.cmpSplit_ne (J.type.andThen (PySem.W.looks_mroIn I.kIn O)) (PySem.F.cmpArgs_ne _ _) ?_))
    unfold Builtin.«object.__ne__»
    refine wpAny_bind (m := slotArgs "__ne__" 1 _) (wpAny_pure ?_)
    refine wpAny_bind (wpAny_cRoomFor hr1.units0 ?_)
    refine wpAny_bind (PySem.W.ifBound_K I.kIn J S.at_ S.fn (wpAny_mono (fn_at (A := X.A.in1) rfl hr1 F hx I (vr2 a b) q) (fun w s' z => ?_) fun _ _ z => z))
    obtain ⟨v', H', I', r', e, rfl, q'⟩ := z
    cases r'
    refine wpAny_bind (wpAny_truthy_bool (wpAny_pure ?_))
    exact wpAny_pure ⟨_, rfl, ⟨V.bl (!e), H', I', rfl, q'⟩⟩
  unfold richCompare
  simp only [oneThing_ref]
  refine wpAny_holding (wpAny_bind (wpAny_cRoomFor hr.units0 ?_))
  refine wpAny_bind (J.type.here (wpAny_bind (J'.type.here ?_)))
  rw [if_neg (by simp)]
  refine wpAny_bind (wpAny_pure ?_)
  simp only [Bool.false_eq_true, if_false]
  refine wpAny_bind (wpAny_mono one (fun r s' z => ?_) fun _ _ e => e)
  obtain ⟨v, rfl, hq⟩ := z
  exact wpAny_pure hq
/-! ### texts -/
/-- a text n times -/
theorem foldl_app (c : Array Nat) : ∀ (n : Nat) (acc : Array Nat), ((List.replicate n c).foldl (· ++ ·) acc).toList = acc.toList ++ (List.replicate n c.toList).flatten
  | 0, acc => by simp
  | n + 1, acc => by
    rw [List.replicate_succ, List.foldl_cons, foldl_app c n (acc ++ c), List.replicate_succ, List.flatten_cons, Array.toList_append, List.append_assoc]
theorem mul_tl (x : Str) (n : Nat) : (Txt.mul x (n : Int)).cps.toList = (List.replicate n x.cps.toList).flatten := by
  unfold Txt.mul
  by_cases h1 : (n : Int) < 1
  · rw [if_pos h1]
    have : n = 0 := by omega
    subst this
    rfl
  · rw [if_neg h1]
    by_cases h2 : ((n : Int) == 1 || x.length == 0) = true
    · rw [if_pos h2]
      rcases Bool.or_eq_true_iff.mp h2 with e | e
      · have e1 : (n : Int) = 1 := eq_of_beq e
        have : n = 1 := by omega
        subst this
        simp
      · have e1 : x.length = 0 := eq_of_beq e
        have e2 : x.cps.toList = [] := by
          have : x.cps.size = 0 := e1
          exact List.eq_nil_of_length_eq_zero (by simpa using this)
        rw [e2]
        simp
    · rw [if_neg h2]
      show ((List.replicate (n : Int).toNat x.cps).foldl (· ++ ·) #[]).toList = _
      rw [foldl_app, Int.toNat_natCast]
      simp
def rMulS : R2 := fun x y H Q => ∃ (z : Str) (n : Nat), x = .str z ∧ y = .int (n : Int) ∧ z.length * n ≤ 16777216 ∧ n ≤ 16777216 ∧ Q (.str (Txt.mul z (n : Int))) H
theorem op_mulS : OpR X (binaryOp .Mult) rMulS := by
  intro pins s σ H x y v u Q I rx ry h
  obtain ⟨z, n, rfl, rfl, h1, h2, q⟩ := h
  obtain ⟨t, rfl⟩ := rx
  obtain ⟨t', rfl⟩ := ry
  refine SB.mul ⟨?_, fun h3 _ h4 => ?_, fun _ _ => ?_⟩ fun t2 k => ⟨.str _, H, I.tok _, ⟨_, rfl⟩, q⟩
  · have a : ¬ ((n : Int) < -(2 ^ 63 : Int)) := by omega
    have b : ¬ ((n : Int) ≥ 2 ^ 63) := by
      have : (2 : Int) ^ 63 = 9223372036854775808 := by decide
      omega
    rw [decide_eq_false a, decide_eq_false b]
    rfl
  · have e : (2 : Int) ^ 63 = 9223372036854775808 := by decide
    rw [e] at h4
    have hn : (1 : Int) ≤ n := by omega
    have := Int.lt_mul_of_ediv_lt (show (0 : Int) < n by omega) h4
    have h5 : ((z.length * n : Nat) : Int) = (z.length : Int) * n := by rw [Int.natCast_mul]
    omega
  · rw [Int.toNat_natCast]
    unfold Builtin.Str.tooLong
    have : sizeLine = 16777216 := sizeLine_eq
    simp
    omega
/-- s[::-1] -/
def revS (z : Str) : Str := ⟨z.cps.toList.reverse.toArray⟩
def tRevS (te : TE) : TE := fun σ H Q => te σ H fun x H1 => ∃ z : Str, x = .str z ∧ z.length ≤ sizeLine ∧ Q (.str (revS z)) H1
theorem rev_list {α : Type} (l : List α) (d : α) : (List.range l.length).map (fun k => l.getD (l.length - 1 - k) d) = l.reverse := by
  apply List.ext_getElem
  · simp
  · intro i h1 h2
    have hi : i < l.length := by simpa using h2
    rw [List.getElem_map, List.getElem_range, List.getElem_reverse, List.getD_eq_getElem?_getD, List.getElem?_eq_getElem (by omega)]
    simp
theorem rev_pick (z : Str) : ((Builtin.Str.strSliceIndices none none (-1) z.length).filterMap (z.cps[·]?)) = z.cps.toList.reverse := by
  rw [picked_rev, filterMap_get, List.map_map]
  · rw [← rev_list z.cps.toList 0]
    have e : z.length = z.cps.toList.length := by simp [Str.length]
    rw [e]
    apply List.map_congr_left
    intro k hk
    have hk' : k < z.cps.toList.length := List.mem_range.mp hk
    have h2 : z.cps.toList.length - 1 - k < z.cps.size := by
      have : z.cps.toList.length = z.cps.size := Array.length_toList
      omega
    rw [List.getD_eq_getElem?_getD, Array.getElem?_toList]
    have h3 : z.cps.size - 1 - k < z.cps.size := by
      have : z.cps.toList.length = z.cps.size := Array.length_toList
      omega
    simp [Array.getD, dif_pos h3, Array.getElem?_eq_getElem h3]
  · intro i hi
    obtain ⟨k, hk, rfl⟩ := List.mem_map.mp hi
    have hk' : k < z.length := List.mem_range.mp hk
    show z.length - 1 - k < z.length
    omega
theorem pe_revS {e : Expr} {te : TE} {k : Nat} {p1 p2 p3 pos : Pos} (he : PE X e te) : PE X (.Subscript e (.Slice none none (some (.UnaryOp .USub (.Constant (.int 1) k p1) p2)) p3) pos) (tRevS te) := by
  refine ⟨fun pins s σ H Q I h => ?_⟩
  refine Subscript_ (thn (he.run pins s σ H _ I h) fun v s1 ⟨x, H1, I1, r1, q1⟩ => ?_)
  obtain ⟨z, ex, hz, q⟩ := q1
  subst ex
  obtain ⟨t, rfl⟩ := r1
  have hst : PO X (some (.UnaryOp .USub (.Constant (.int 1) k p1) p2)) (tPart (tUn (rU fun i => .int (-i)) (tC (.int 1)))) := po_some (pe_un un_neg pe_int)
  refine wpAny_Slice (thn (po_none.run pins s1 σ H1 (fun o H2 => o = none ∧ H2 = H1) I1 ⟨rfl, rfl⟩) fun vl s2 ⟨l, H2, I2, pl, el, e2⟩ => ?_)
  subst el e2
  refine thn (po_none.run pins s2 σ H2 (fun o H3 => o = none ∧ H3 = H2) I2 ⟨rfl, rfl⟩) fun vu s3 ⟨u, H3, I3, pu, eu, e3⟩ => ?_
  subst eu e3
  refine thn (hst.run pins s3 σ H3 (fun o H4 => o = some (-1) ∧ H4 = H3) I3 ⟨1, rfl, -1, rfl, rfl, rfl⟩) fun vs s4 ⟨o, H4, I4, ps, eo, e4⟩ => ?_
  subst eo e4
  have I5 : Inv X pins σ H4 { s4 with heap := s4.heap.push { cls := .type "slice", data := .fields #[vl, vu, vs] } } := I4.kept (t' := s4.toks) fun b ob q => Heap.get?_push_of_some _ q
  obtain ⟨l, rfl, hl⟩ := IsPart.raw pl
  obtain ⟨u, rfl, hu⟩ := IsPart.raw pu
  obtain ⟨w, rfl, hw⟩ := IsPart.raw ps
  cases l with
  | some p => cases hl
  | none =>
    cases u with
    | some p => cases hu
    | none =>
      cases w with
      | none => cases hw
      | some p =>
        obtain ⟨m, tk⟩ := p
        have em : m = -1 := by simpa using hw
        subst em
        show wpAny (model X.prog X.w) X.A (subscriptTail e (.Slice none none (some (.UnaryOp .USub (.Constant (.int 1) k p1) p2)) p3) (.str z t) (.ref s4.heap.objs.size)) (EP X pins σ Q) X.xe _
        refine tail_any (ops := [.str z t, .ref s4.heap.objs.size]) (typeIs_str _ _ _) F.slot_str_getitem.lookup ?_ (by with_unfolding_all rfl)
        obtain ⟨os, hos, hcs, hds⟩ := Heap.IsSliceOf.new s4.heap (partValue none) (partValue none) (partValue (some ((-1 : Int), tk)))
        refine wpAny_getItem_str_slice (l := none) (u := none) (st := some ((-1 : Int), tk)) ⟨os, hos, hcs, hds⟩ rfl ?_
        show Made.post (if ((-1 : Int) == 1 && (Builtin.Str.strSliceIndices none none (-1) z.length).length == z.length) = true then Made.val (.str z t)
          else Made.str ⟨((Builtin.Str.strSliceIndices none none (-1) z.length).filterMap (z.cps[·]?)).toArray⟩) (EP X pins σ Q) _
        rw [if_neg (by simp), rev_pick]
        refine ⟨?_, .str (revS z), H4, I5.tok _, ⟨_, rfl⟩, q⟩
        show (z.cps.toList.reverse.toArray).size ≤ sizeLine
        rw [List.size_toArray, List.length_reverse, Array.length_toList]
        exact hz
/-- bool(x), x an instance with __bool__ -/
def rBool (C : Addr) (sp : Sp) (E : XK) : List V → Hp → VK → Prop := fun xs H Q => ∃ a dx fs, xs = [.ref a] ∧ H a = some (.ins C dx fs) ∧ sp [.ref a] H (fun r H' => ∃ b, r = .bl b ∧ Q (.bl b) H') E
theorem call_bool_own (S : Sm X.K C "__bool__" f) (F : FnR X.prog X.w X.K X.mg X.base CX k f sp) (hr : Room (k + 1) X.A) (hx : Passes CX X E) : CallR X (.type "bool") (rBool C sp E) := by
  intro pins s σ H xs us Q I r h
  obtain ⟨a, dx, fs, rfl, ha, q⟩ := h
  cases r.ref1
  obtain ⟨od, J⟩ := inst_of I ha
  obtain ⟨m, hF⟩ := I.fr
  have hr2 := Room.in2 hr
  refine callType_codes (T := "bool") (Bi := Builtin.«object.__init__») (Q₁ := fun r s₁ => (∃ b, r = .bool b) ∧ EP X pins σ Q r s₁) PySem.F.called_bool (PySem.F.typeCall_bool_1 _) PySem.F.entry_object_init ?_ ?_
  · refine codeAny_of_tree ?_
    show wpAny _ X.A.in1.in1 (do checkBuiltinCall "bool.__new__" ⟨[.type "bool", .ref a], []⟩; again (.builtin "bool.__new__" ⟨[.type "bool", .ref a], []⟩)) _ _ s
    refine wpAny_bind (wpAny_of_eq (PySem.F.newCall_bool_1 _) (wpAny_pure ⟨plainId_quiet (by decide +kernel) _, codeAny_builtin PySem.F.entry_bool_new ?_⟩))
    rw [Around.under_plainId (by decide +kernel) _]
    have f1 := PySem.F.conv_sub_bool
    have tr : wpAny (model X.prog X.w) X.A.in1.in1 (truthy (.ref a)) (fun b s' => EP X pins σ Q (.bool b) s') X.xe s := by
      refine PySem.W.truthy_K hF I.ok.mod.kin J S.at_ S.fn (wpAny_mono (fn_at (A := X.A.in1.in1) rfl hr2 F hx I (vr1 a) q) (fun w s' z => ?_) fun _ _ z => z)
      obtain ⟨v', H', I', r', b, rfl, q'⟩ := z
      cases r'
      exact ⟨V.bl b, H', I', rfl, q'⟩
    unfold Builtin.«bool.__new__»
    obtain ⟨hp, g, d, tk, os⟩ := s
    repeat (first | (with_reducible refine wpAny_mono tr (fun b s' hb => ?_) fun _ _ z => z) | wp_step)

    exact ⟨⟨b, rfl⟩, hb⟩
  · rintro obj s₁ ⟨⟨b, rfl⟩, hq⟩
    exact ⟨rfl, PySem.F.args_object_init_2 _ _, object_init_meets PySem.F.called_bool.init.lookup PySem.F.called_bool.made (by decide) X.prog X.w X.A.in1 _ s₁ ⟨rfl, rfl, hq⟩⟩
end
end Od
namespace Od
open PySem PySem.Spec PyProof.Rows L2 C8
section
variable {X : Cx} {k j : Nat} {C : Addr} {m : Str} {sp : Sp} {dvs : List V} {o e : Expr} {es : List Expr} {ta : TE} {t : TA} {p pos apos : Pos}
theorem Met.raw (c : C8.Met X.prog X.w X.K X.mg X.base k C m sp []) : ∃ f, Sm X.K C m f ∧ FnR X.prog X.w X.K X.mg X.base C8.CX0 k f sp := by
  obtain ⟨f, fd, ps, ds, hc, hm, F, b, d⟩ := c.ex
  exact ⟨f, ⟨hm.at_, hm.fn⟩, (F.raw b d).imp fun vs H Q E h => by rw [List.append_nil]; exact h⟩
theorem op_ownM {op : Operator} (hc : PySem.W.selfFirst X.K C = true) (c : C8.Met X.prog X.w X.K X.mg X.base k C (PySem.dunder op.info.2) sp []) (hr : Room j X.A) (hk : k ≤ j) : OpR X (binaryOp op) (rOwn C sp C8.E0) := by
  obtain ⟨f, S, F⟩ := Met.raw c
  exact op_own hc S F (hr.mono hk) C8.pass0
theorem op_ownIM {op : Operator} {fo ro : Option Value} (hc : PySem.W.selfFirst X.K C = true) (c : C8.Met X.prog X.w X.K X.mg X.base k C (PySem.dunder op.info.2) sp []) (hR : PySem.W.findIn X.K (.ref C) (dunderR op.info.2) = some none) (hr : Room j X.A) (hk : k ≤ j)
    (h1 : PySem.W.findIn X.K (.type "int") (PySem.dunder op.info.2) = some fo) (h2 : PySem.W.findIn X.K (.type "int") (dunderR op.info.2) = some ro) (hU : PySem.W.subIn X.K (.type "int") (.ref C) = some false) : OpR X (binaryOp op) (rOwnI C sp C8.E0) := by
  obtain ⟨f, S, F⟩ := Met.raw c
  exact op_ownI hc S hR h1 h2 hU F (hr.mono hk) C8.pass0
theorem un_ownNegM (c : C8.Met X.prog X.w X.K X.mg X.base k C "__neg__" sp []) (hr : Room j X.A) (hk : k ≤ j) : UnR X (unaryOp .USub) (rOwnU C sp C8.E0) := by
  obtain ⟨f, S, F⟩ := Met.raw c
  exact un_ownNeg S F (hr.mono hk) C8.pass0
theorem un_ownInvM (c : C8.Met X.prog X.w X.K X.mg X.base k C "__invert__" sp []) (hr : Room j X.A) (hk : k ≤ j) : UnR X (unaryOp .Invert) (rOwnU C sp C8.E0) := by
  obtain ⟨f, S, F⟩ := Met.raw c
  exact un_ownInv S F (hr.mono hk) C8.pass0
theorem op_ownEqM (c : C8.Met X.prog X.w X.K X.mg X.base k C "__eq__" sp []) (hr : Room j X.A) (hk : k ≤ j) : OpR X (compareOp .Eq) (rOwn C sp C8.E0) := by
  obtain ⟨f, S, F⟩ := Met.raw c
  exact op_ownCmp (fun _ _ => rfl) S F (hr.mono hk) C8.pass0
theorem op_ownLeM (c : C8.Met X.prog X.w X.K X.mg X.base k C "__le__" sp []) (hr : Room j X.A) (hk : k ≤ j) : OpR X (compareOp .LtE) (rOwn C sp C8.E0) := by
  obtain ⟨f, S, F⟩ := Met.raw c
  exact op_ownCmp (fun _ _ => rfl) S F (hr.mono hk) C8.pass0
theorem op_ownLtM (c : C8.Met X.prog X.w X.K X.mg X.base k C "__lt__" sp []) (hr : Room j X.A) (hk : k ≤ j) : OpR X (compareOp .Lt) (rOwn C sp C8.E0) := by
  obtain ⟨f, S, F⟩ := Met.raw c
  exact op_ownCmp (fun _ _ => rfl) S F (hr.mono hk) C8.pass0
theorem op_ownGeM (c : C8.Met X.prog X.w X.K X.mg X.base k C "__ge__" sp []) (hr : Room j X.A) (hk : k ≤ j) : OpR X (compareOp .GtE) (rOwn C sp C8.E0) := by
  obtain ⟨f, S, F⟩ := Met.raw c
  exact op_ownCmp (fun _ _ => rfl) S F (hr.mono hk) C8.pass0
theorem op_ownGtM (c : C8.Met X.prog X.w X.K X.mg X.base k C "__gt__" sp []) (hr : Room j X.A) (hk : k ≤ j) : OpR X (compareOp .Gt) (rOwn C sp C8.E0) := by
  obtain ⟨f, S, F⟩ := Met.raw c
  exact op_ownCmp (fun _ _ => rfl) S F (hr.mono hk) C8.pass0
theorem op_ownNeM (c : C8.Met X.prog X.w X.K X.mg X.base k C "__eq__" sp []) (N : PySem.W.findIn X.K (.ref C) "__ne__" = some (some (.builtin "object.__ne__"))) (O : PySem.W.mroIn X.K C (.type "object") = some true) (hr : Room j X.A) (hk : k + 1 ≤ j) :
    OpR X (compareOp .NotEq) (rOwnNe C sp C8.E0) := by
  obtain ⟨f, S, F⟩ := Met.raw c
  exact op_ownNe S N O F (hr.mono hk) C8.pass0
theorem op_ownInM (c : C8.Met X.prog X.w X.K X.mg X.base k C "__contains__" sp []) (hr : Room j X.A) (hk : k ≤ j) : OpR X (compareOp .In) (rOwnIn C sp C8.E0 false) := by
  obtain ⟨f, S, F⟩ := Met.raw c
  exact op_ownIn S F (hr.mono hk) C8.pass0
theorem op_ownNotInM (c : C8.Met X.prog X.w X.K X.mg X.base k C "__contains__" sp []) (hr : Room j X.A) (hk : k ≤ j) : OpR X (compareOp .NotIn) (rOwnIn C sp C8.E0 true) := by
  obtain ⟨f, S, F⟩ := Met.raw c
  exact op_ownNotIn S F (hr.mono hk) C8.pass0
theorem tru_ownM (c : C8.Met X.prog X.w X.K X.mg X.base k C "__bool__" sp []) (hr : Room j X.A) (hk : k ≤ j) : TruR X (rTru C sp C8.E0) := by
  obtain ⟨f, S, F⟩ := Met.raw c
  exact tru_own S F (hr.mono hk) C8.pass0
theorem pt_own {a : Expr} (c : C8.Met X.prog X.w X.K X.mg X.base k C "__bool__" sp []) (hr : Room j X.A) (hk : k ≤ j) (ha : PE X a ta) (he : ∀ whole, isTrue a X.env whole = (do let v ← whole; standAt a.pos; holding [v] (truthy v)) := by intro _; rfl) :
    PT X a (fun σ H Q => ta σ H fun x H' => rTru C sp C8.E0 x H' Q) := by
  refine ⟨fun pins s σ H Q I hw => ?_⟩
  refine isTrue_plain (thn (ha.run pins s σ H _ I hw) fun v s1 ⟨x, H1, I1, r1, q1⟩ => ?_) (he _)
  exact tru_ownM c hr hk pins s1 σ H1 x v Q I1 r1 q1
theorem call_str_ownM (c : C8.Met X.prog X.w X.K X.mg X.base k C "__str__" sp []) (hr : Room j X.A) (hk : k + 1 ≤ j) : CallR X (.type "str") (rStr C sp C8.E0) := by
  obtain ⟨f, S, F⟩ := Met.raw c
  exact call_str_own S F (hr.mono hk) C8.pass0
theorem call_bool_ownM (c : C8.Met X.prog X.w X.K X.mg X.base k C "__bool__" sp []) (hr : Room j X.A) (hk : k + 1 ≤ j) : CallR X (.type "bool") (rBool C sp C8.E0) := by
  obtain ⟨f, S, F⟩ := Met.raw c
  exact call_bool_own S F (hr.mono hk) C8.pass0
/-! ### an attribute as a target -/
def gFld (K : PySem.W.Frag) (to : TE) (f : Str) : TG := fun v σ H Q => to σ H fun x H1 => ∃ a C dx fs, x = .ref a ∧ H1 a = some (.ins C dx fs) ∧ Cls K C ∧ NoAttr K C f ∧ fs.length < 1000 ∧ Q σ (upd H1 a (.ins C dx (putF f v fs)))
theorem pg_fld {f : Str} (ho : PE X o ta)
    (ha : ∀ v, assign (.Attribute o f pos) X.env v = (do
      let ov ← holding [v] (eval o X.env)
      standAt pos.atName
      holding [v, ov] (setAttr ov f v)
      release [v, ov] []) := by intro _; rfl) : PG X (.Attribute o f pos) (gFld X.K ta f) := by
  refine ⟨fun pins s σ H v u Q I r h => ?_⟩
  rw [ha]
  refine wpAny_bind (wpAny_holding (thn (ho.run pins s σ H _ I h) fun ov s1 ⟨x, H1, I1, r1, a, C, dx, fs, ex, ea, c, n, l, q⟩ => ?_))
  subst ex
  obtain rfl : ov = Value.ref a := r1
  refine wpAny_bind (wpAny_standAt (wpAny_bind (wpAny_holding (setattr_ok I1 ea c n l r fun s3 I3 => ?_))))
  exact wpAny_release ⟨σ, _, I3, q⟩
/-! ### classmethods -/
structure CMt (P : Program) (w : World) (K : PySem.W.Frag) (mg : Str → Option Value) (base : Heap) (k : Nat) (C : Addr) (m : Str) (sp : Sp) : Prop where
  ex : ∃ (mc : Value) (p g : Addr), ClX.CRead K C mc ∧ ClX.CMet K C mc m p g ∧ FnR P w K mg base C8.CX0 k g sp
theorem pe_cm {C : Addr} (c : CMt X.prog X.w X.K X.mg X.base k C m sp) (hr : Room j X.A) (hk : k ≤ j) (he : PE X o ta) (ha : PA X (e :: es) t) {pl : Sem Bool}
    (hst : starEach (e :: es) X.env = (false, eval e X.env) :: starEach es X.env := by rfl) (hpl : (backTo pos (starEach es X.env)).any (·.1) = false := by rfl)
    (ht : eval (.Call (.Attribute o m apos) (e :: es) [] pos) X.env = (do
      let ov ← eval o X.env
      standAt apos.atName
      let (f, first) ← holding [ov] (getMethod ov m pl)
      callWith pos f first (backTo pos (starEach (e :: es) X.env)) (backToKw pos (keywordEach [] X.env))) := by rfl) :
    PE X (.Call (.Attribute o m apos) (e :: es) [] pos) (ClX.tCMeth C sp C8.E0 ta t) := by
  obtain ⟨mc, p, g, r, cm, F⟩ := c.ex
  exact ClX.pe_cmeth (pl := pl) he r cm F (hr.mono hk) C8.pass0 ha hst hpl ht
theorem pe_cm0 {C : Addr} (c : CMt X.prog X.w X.K X.mg X.base k C m sp) (hr : Room j X.A) (hk : k ≤ j) (he : PE X o ta) {pl : Sem Bool}
    (ht : eval (.Call (.Attribute o m apos) [] [] pos) X.env = (do
      let ov ← eval o X.env
      standAt apos.atName
      let (f, first) ← holding [ov] (getMethod ov m pl)
      callWith pos f first (backTo pos (starEach [] X.env)) (backToKw pos (keywordEach [] X.env))) := by rfl) :
    PE X (.Call (.Attribute o m apos) [] [] pos) (ClX.tCMeth C sp C8.E0 ta tNil) := by
  obtain ⟨mc, p, g, r, cm, F⟩ := c.ex
  refine ⟨fun pins s σ H Q I h => ?_⟩
  refine PySem.W.methodCall_KW (pl := pl) (thn (he.run pins s σ H _ I h) fun u s1 ⟨x, H1, I1, rx, ex, q⟩ => ?_) ht
  subst ex
  obtain rfl : u = Value.ref C := rx
  refine ClX.getmethcm_ok I1 r cm fun s2 I2 => ?_
  exact PySem.W.callWith_M0 (first := []) ⟨ClX.pin_at I2, I2.kIn⟩ cm.fi (ClX.run_cm (us := []) (vs := []) F (hr.mono hk) C8.pass0 I2 .nil q)
end
end Od
end
section
set_option Elab.async false
set_option linter.all false
set_option maxRecDepth 100000
set_option maxHeartbeats 2000000
/-! rows of signs as texts; what the text has written; short rules -/
namespace Od
open PySem PySem.Spec PyProof.Rows L2 Day
/-! ### rows as texts -/
def sg (b : Bool) : Nat := if b then 49 else 48
def rowS (l : List Bool) : Str := SX.S (l.map sg)
theorem rowS_len (l : List Bool) : (rowS l).length = l.length := by
  unfold rowS
  rw [SX.S_len, List.length_map]
theorem rowS_cat (a b : List Bool) : rowS a ++ rowS b = rowS (a ++ b) := by
  unfold rowS
  rw [SX.S_cat, List.map_append]
theorem sg_inj {a b : Bool} (h : sg a = sg b) : a = b := by cases a <;> cases b <;> first | rfl | (revert h; decide)
theorem rowS_inj {a b : List Bool} (h : rowS a = rowS b) : a = b := by
  have := SX.S_inj h
  revert b
  induction a with
  | nil =>
    intro b _ h
    cases b with
    | nil => rfl
    | cons x b => simp at h
  | cons x a ih =>
    intro b _ h
    cases b with
    | nil => simp at h
    | cons y b =>
      simp only [List.map_cons, List.cons.injEq] at h
      rw [sg_inj h.1, ih (b := b) (congrArg SX.S h.2) h.2]
theorem rowS_dec (a b : List Bool) : decide (V.str (rowS a) = V.str (rowS b)) = decide (a = b) := by
  by_cases h : a = b
  · subst h; simp
  · rw [decide_eq_false h, decide_eq_false]
    intro e
    exact h (rowS_inj (V.str.inj e))
theorem rowS_nil : rowS [] = ("" : Str) := by decide +kernel
theorem rowS_0 : rowS [false] = ("0" : Str) := by decide +kernel
theorem rowS_1 : rowS [true] = ("1" : Str) := by decide +kernel
theorem rowS_tl (l : List Bool) : (rowS l).cps.toList = l.map sg := rfl
theorem rowS_from (l : List Bool) (i : Nat) (h : i ≤ l.length) : cutS (rowS l) (some (i : Int)) none = rowS (l.drop i) := by
  refine TL.ext_tl ?_
  show (((rowS l).cps.toList.drop (HT.sIx (rowS l).length 0 (some (i : Int)))).take (HT.sIx (rowS l).length (rowS l).length none - HT.sIx (rowS l).length 0 (some (i : Int)))) = (l.drop i).map sg
  rw [HT.sIx_nat, HT.sIx_none, rowS_tl, rowS_len, Nat.min_eq_left h, List.map_drop]
  apply List.take_of_length_le
  rw [List.length_drop, List.length_map]
  exact Nat.le_refl _
theorem rowS_to (l : List Bool) (i : Nat) (h : i ≤ l.length) : cutS (rowS l) none (some (i : Int)) = rowS (l.take i) := by
  refine TL.ext_tl ?_
  show (((rowS l).cps.toList.drop (HT.sIx (rowS l).length 0 none)).take (HT.sIx (rowS l).length (rowS l).length (some (i : Int)) - HT.sIx (rowS l).length 0 none)) = (l.take i).map sg
  rw [HT.sIx_nat, HT.sIx_none, rowS_tl, rowS_len, Nat.min_eq_left h, List.drop_zero, Nat.sub_zero, List.map_take]
theorem rowS_mid (l : List Bool) (i j : Nat) (h : i ≤ j) (hj : j ≤ l.length) : cutS (rowS l) (some (i : Int)) (some (j : Int)) = rowS ((l.drop i).take (j - i)) := by
  refine TL.ext_tl ?_
  show (((rowS l).cps.toList.drop (HT.sIx (rowS l).length 0 (some (i : Int)))).take (HT.sIx (rowS l).length (rowS l).length (some (j : Int)) - HT.sIx (rowS l).length 0 (some (i : Int)))) = ((l.drop i).take (j - i)).map sg
  rw [HT.sIx_nat, HT.sIx_nat, rowS_tl, rowS_len, Nat.min_eq_left (show i ≤ l.length by omega), Nat.min_eq_left hj, List.map_take, List.map_drop]
theorem rowS_mul (l : List Bool) (n : Nat) : Txt.mul (rowS l) (n : Int) = rowS (List.replicate n l).flatten := by
  refine TL.ext_tl ?_
  show (Txt.mul (rowS l) (n : Int)).cps.toList = (List.replicate n l).flatten.map sg
  rw [mul_tl, rowS_tl]
  induction n with
  | zero => rfl
  | succ n ih => rw [List.replicate_succ, List.flatten_cons, ih, List.replicate_succ, List.flatten_cons, List.map_append]
theorem rowS_rev (l : List Bool) : revS (rowS l) = rowS l.reverse := by
  refine TL.ext_tl ?_
  show (rowS l).cps.toList.reverse = l.reverse.map sg
  rw [rowS_tl, List.map_reverse]
theorem rowS_at {l : List Bool} {i : Nat} (h : i < l.length) : atI (rowS l).cps.toList (i : Int) = some (sg (l.getD i false)) := by
  apply atI_nat
  rw [rowS_tl, List.getElem?_map, List.getElem?_eq_getElem h, List.getD_eq_getElem?_getD, List.getElem?_eq_getElem h]
  rfl
/-- the sign at a place, cyc's way -/
theorem rowS_cyc {l : List Bool} (h : l ≠ []) (z : Int) : atI (rowS l).cps.toList (z % (l.length : Int)) = some (sg (cyc l z)) := by
  have hl := prim_len h
  have m0 := Int.emod_nonneg z (show (l.length : Int) ≠ 0 by omega)
  have m1 := Int.emod_lt_of_pos z (show (0 : Int) < l.length by omega)
  have := rowS_at (l := l) (i := (z % (l.length : Int)).toNat) (by omega)
  rw [Int.toNat_of_nonneg m0] at this
  exact this
/-- .. from behind: row[-1 - k % len(row)] -/
theorem rowS_back {l : List Bool} (h : l ≠ []) (k : Int) : atI (rowS l).cps.toList (-1 - k % (l.length : Int)) = some (sg (cyc l (-1 - k))) := by
  have hl := prim_len h
  have m0 := Int.emod_nonneg k (show (l.length : Int) ≠ 0 by omega)
  have m1 := Int.emod_lt_of_pos k (show (0 : Int) < l.length by omega)
  have e : (-1 - k) % (l.length : Int) = (l.length : Int) - 1 - k % (l.length : Int) := by
    have e1 : (-1 - k) % (l.length : Int) = ((l.length : Int) - 1 - k % (l.length : Int)) % (l.length : Int) := by
      have q := Int.mul_ediv_add_emod k (l.length : Int)
      rw [show (l.length : Int) - 1 - k % (l.length : Int) = -1 - k + (1 + k / (l.length : Int)) * (l.length : Int) by
        rw [Int.add_mul, Int.one_mul, Int.mul_comm (k / (l.length : Int))]
        omega]
      rw [Int.add_mul_emod_self_right]
    rw [e1, Int.emod_eq_of_lt (by omega) (by omega)]
  have h2 := rowS_cyc h (-1 - k)
  rw [e] at h2
  unfold atI at h2 ⊢
  have hn : (rowS l).cps.toList.length = l.length := by rw [rowS_tl, List.length_map]
  rw [hn] at h2 ⊢
  have e3 : ixN l.length (-1 - k % (l.length : Int)) = ixN l.length ((l.length : Int) - 1 - k % (l.length : Int)) := by
    unfold ixN
    rw [if_neg (by omega), if_pos (by omega), if_pos (by omega), if_pos (by omega)]
    congr 1
    omega
  rw [e3]
  exact h2
theorem sgn_dec (a b : Bool) : decide (V.str ⟨#[sg a]⟩ = V.str ⟨#[sg b]⟩) = decide (a = b) := by cases a <;> cases b <;> decide +kernel
def bi (b : Bool) : Int := if b then 1 else 0
theorem int_sgn (b : Bool) : intText? (⟨#[sg b]⟩ : Str) = some (bi b) := by cases b <;> decide +kernel
end Od
end
section
set_option Elab.async false
set_option linter.all false
set_option maxRecDepth 100000
set_option maxHeartbeats 2000000
set_option autoImplicit false
/-! what every law's text has in common: names, heaps that grow, comprehensions, defs by their places -/
namespace Od
open PySem PySem.Spec PyProof.Rows L2 C8 Day
/-- names that the text leaves to the built-ins -/
structure Txt (K : PySem.W.Frag) (mg : Str → Option Value) : Prop where
  b_len : mg "len" = none
  b_abs : mg "abs" = none
  b_int : mg "int" = none
  b_str : mg "str" = none
  b_min : mg "min" = none
  b_max : mg "max" = none
  b_range : mg "range" = none
  b_all : mg "all" = none
  b_any : mg "any" = none
  b_isinstance : mg "isinstance" = none
  b_bool : mg "bool" = none
  b_list : mg "list" = none
  b_enumerate : mg "enumerate" = none
  b_sorted : mg "sorted" = none
  b_dict : mg "dict" = none
  b_repr : mg "repr" = none
  b_tuple : mg "tuple" = none
  b_zip : mg "zip" = none
  b_sum : mg "sum" = none
  b_reversed : mg "reversed" = none
/-- a def of the module, its parameters -/
def DefOf (K : PySem.W.Frag) (mg : Str → Option Value) (x : Str) (st : Stmt) (ps : List Str) : Prop := ∃ f fd, Def K mg x st f fd ∧ Binds K fd ps []
/-- what stood stands -/
def Le (H H' : Hp) : Prop := ∀ a o, H a = some o → H' a = some o
theorem Le.refl {H : Hp} : Le H H := fun _ _ h => h
theorem Le.trans {H H1 H2 : Hp} (a : Le H H1) (b : Le H1 H2) : Le H H2 := fun x o h => b x o (a x o h)
theorem Le.new {H : Hp} {p : Addr} {o : HO} (h : H p = none) : Le H (upd H p o) := fun a u e => by
  by_cases c : a = p
  · subst c; rw [h] at e; cases e
  · unfold upd; rw [if_neg c]; exact e
theorem Le.upd {H H' : Hp} {p : Addr} {o : HO} (l : Le H H') (h : H p = none) : Le H (upd H' p o) := fun a u e => by
  by_cases c : a = p
  · subst c; rw [h] at e; cases e
  · unfold L2.upd; rw [if_neg c]; exact l a u e
theorem Le.none {H H' : Hp} {p : Addr} (l : Le H H') (h : H' p = none) : H p = none := by
  cases e : H p with
  | none => rfl
  | some o => rw [l p o e] at h; cases h
theorem upd_self {H : Hp} {p : Addr} {o : HO} : upd H p o p = some o := by unfold upd; rw [if_pos rfl]
theorem upd_ne {H : Hp} {p q : Addr} {o : HO} (h : q ≠ p) : upd H p o q = H q := by unfold upd; rw [if_neg h]
/-! ### lists made by comprehensions -/
def LeX (D : Addr) (H H' : Hp) : Prop := ∀ a o, a ≠ D → H a = some o → H' a = some o
theorem Le.x {D : Addr} {H H' : Hp} (l : Le H H') : LeX D H H' := fun a o _ h => l a o h
theorem LeX.upd {D : Addr} {o : HO} {H H' : Hp} (l : LeX D H H') : LeX D H (upd H' D o) := fun a u c h => by rw [upd_ne c]; exact l a u c h
theorem LeX.le {D : Addr} {H H' : Hp} (l : LeX D H H') (h : H D = none) : Le H H' := fun a o e => l a o (fun c => by subst c; rw [h] at e; cases e) e
/-- a comprehension whose turns leave the heap as it was, or with more in it: R tells what a turn gives (none: not taken) -/
theorem lc_walk {J : It} {n : Nat} {G : Hp → Prop} {Y : Nat → Hp → V → Hp → Prop} (w : Walk J n G Y) {g : TG} {tt : TT} {te : TE} {vs : List Nat} {σ : L2.St} {H1 : Hp} {D : Addr} {Qd : Hp → Prop} (hD : H1 D = none) (hn : n ≤ sizeLine)
    (hG : ∀ H, Le H1 H → G H) (hY : ∀ i H x H', Y i H x H' → Le H H') (R : Nat → Option V → Hp → Prop) (hR : ∀ i r H H', LeX D H H' → (∃ acc, H D = some (.lst acc)) → R i r H → R i r H')
    (hs : ∀ i x H H', i < n → Le H1 H → (∃ acc, H D = some (.lst acc)) → Y i H x H' → ∀ N : Option V → Hp → Prop, (∀ r H2, Le H' H2 → R i r H2 → N r H2) → g x (wipe σ vs) H' fun σ2 H2 => wipe σ2 vs = wipe σ vs ∧ tt σ2 H2 fun b H3 => if b = true then te σ2 H3 fun y H4 => N (some y) H4 else N none H3)
    (hd : ∀ H (rs : List (Option V)), Le H1 H → rs.length = n → (∀ i r, rs[i]? = some r → R i r H) → H D = some (.lst (rs.filterMap id)) → Qd H) :
    ∃ W : Nat → Nat → Hp → Prop, (∃ m, W 0 m (upd H1 D (.lst []))) ∧ ∀ i m H, W i m H →
      (J.stop i H ∧ Qd H) ∨ (J.go i H ∧ ∃ Nx : Hp → Prop, (∀ H', Nx H' → ∃ m', m' < m ∧ W (i + 1) m' H') ∧ ∀ x H', J.yld i H x H' → g x (wipe σ vs) H' fun σ2 H2 => wipe σ2 vs = wipe σ vs ∧ tt σ2 H2 fun b H3 =>
        if b = true then te σ2 H3 fun y H4 => ∃ acc, H4 D = some (.lst acc) ∧ acc.length < sizeLine ∧ Nx (upd H4 D (.lst (acc ++ [y]))) else Nx H3) := by
  refine lc_it w (fun i H => Le H1 H ∧ ∃ rs : List (Option V), rs.length = i ∧ (∀ j r, rs[j]? = some r → R j r H) ∧ H D = some (.lst (rs.filterMap id))) ⟨Le.new hD, [], rfl, fun j r h => by simp at h, upd_self⟩ (fun i H _ p => hG H p.1) ?_ ?_
  · rintro i x H H' hi ⟨le, rs, hl, hr, e⟩ hy
    have l2 := hY i H x H' hy
    have eD : H' D = some (.lst (rs.filterMap id)) := l2 D _ e
    have st := hs i x H H' hi le ⟨_, e⟩ hy (fun r H4 => match r with
      | some y => ∃ acc, H4 D = some (.lst acc) ∧ acc.length < sizeLine ∧ (Le H1 (upd H4 D (.lst (acc ++ [y]))) ∧ ∃ rs' : List (Option V), rs'.length = i + 1 ∧ (∀ j r, rs'[j]? = some r → R j r (upd H4 D (.lst (acc ++ [y])))) ∧ upd H4 D (.lst (acc ++ [y])) D = some (.lst (rs'.filterMap id)))
      | none => Le H1 H4 ∧ ∃ rs' : List (Option V), rs'.length = i + 1 ∧ (∀ j r, rs'[j]? = some r → R j r H4) ∧ H4 D = some (.lst (rs'.filterMap id))) ?_
    · exact st
    · intro r H2 l3 hr2
      have eD2 := l3 D _ eD
      have lenf : (rs.filterMap id).length ≤ i := by rw [← hl]; exact List.length_filterMap_le _ _
      cases r with
      | none =>
        refine ⟨le.trans (l2.trans l3), rs ++ [none], by simp [hl], fun j r hj => ?_, by simpa using eD2⟩
        by_cases c : j < rs.length
        · rw [List.getElem?_append_left c] at hj
          exact hR j r H H2 (l2.trans l3).x ⟨_, e⟩ (hr j r hj)
        · have : j = i := by
            have := (List.getElem?_eq_some_iff.mp hj).1
            simp [hl] at this; omega
          subst this
          rw [List.getElem?_append_right (by omega), hl] at hj
          simp at hj
          subst hj
          exact hr2
      | some y =>
        refine ⟨_, eD2, by omega, (le.trans (l2.trans l3)).upd hD, rs ++ [some y], by simp [hl], fun j r hj => ?_, by rw [upd_self]; simp⟩
        have lx : LeX D H2 (upd H2 D (.lst (rs.filterMap id ++ [y]))) := (Le.refl).x.upd
        by_cases c : j < rs.length
        · rw [List.getElem?_append_left c] at hj
          exact hR j r H2 _ lx ⟨_, eD2⟩ (hR j r H H2 (l2.trans l3).x ⟨_, e⟩ (hr j r hj))
        · have : j = i := by
            have := (List.getElem?_eq_some_iff.mp hj).1
            simp [hl] at this; omega
          subst this
          rw [List.getElem?_append_right (by omega), hl] at hj
          simp at hj
          subst hj
          exact hR _ _ H2 _ lx ⟨_, eD2⟩ hr2
  · rintro H ⟨le, rs, hl, hr, e⟩
    exact hd H rs le hl hr e
/-- .. whose values are told by the turn alone -/
theorem lc_pure {J : It} {n : Nat} {G : Hp → Prop} {Y : Nat → Hp → V → Hp → Prop} (w : Walk J n G Y) {g : TG} {tt : TT} {te : TE} {vs : List Nat} {σ : L2.St} {H1 : Hp} {D : Addr} {Qd : Hp → Prop} (hD : H1 D = none) (hn : n ≤ sizeLine)
    (hG : ∀ H, Le H1 H → G H) (hY : ∀ i H x H', Y i H x H' → Le H H') (el : Nat → Option V)
    (hs : ∀ i x H H', i < n → Le H1 H → Y i H x H' → ∀ N : Option V → Hp → Prop, (∀ H2, Le H' H2 → N (el i) H2) → g x (wipe σ vs) H' fun σ2 H2 => wipe σ2 vs = wipe σ vs ∧ tt σ2 H2 fun b H3 => if b = true then te σ2 H3 fun y H4 => N (some y) H4 else N none H3)
    (hd : ∀ H, Le H1 H → H D = some (.lst ((List.range n).filterMap el)) → Qd H) :
    ∃ W : Nat → Nat → Hp → Prop, (∃ m, W 0 m (upd H1 D (.lst []))) ∧ ∀ i m H, W i m H →
      (J.stop i H ∧ Qd H) ∨ (J.go i H ∧ ∃ Nx : Hp → Prop, (∀ H', Nx H' → ∃ m', m' < m ∧ W (i + 1) m' H') ∧ ∀ x H', J.yld i H x H' → g x (wipe σ vs) H' fun σ2 H2 => wipe σ2 vs = wipe σ vs ∧ tt σ2 H2 fun b H3 =>
        if b = true then te σ2 H3 fun y H4 => ∃ acc, H4 D = some (.lst acc) ∧ acc.length < sizeLine ∧ Nx (upd H4 D (.lst (acc ++ [y]))) else Nx H3) := by
  refine lc_walk w hD hn hG hY (fun i r _ => r = el i) (fun _ _ _ _ _ _ h => h) (fun i x H H' hi le _ hy N hN => hs i x H H' hi le hy N fun H2 l => hN _ H2 l rfl) fun H rs le hl hr e => hd H le ?_
  have : rs = (List.range n).map el := by
    apply List.ext_getElem?
    intro i
    by_cases c : i < rs.length
    · rw [List.getElem?_eq_getElem c, List.getElem?_map, List.getElem?_range (by omega)]
      exact congrArg some (hr i _ (List.getElem?_eq_getElem c))
    · rw [List.getElem?_eq_none (by omega), List.getElem?_eq_none (by simp; omega)]
  rw [e, this, List.filterMap_map]
  rfl
theorem yfn_le {f : Nat → V} : ∀ i H x H', YFn f i H x H' → Le H H' := fun _ _ _ _ h => by rw [h.1]; exact .refl
theorem yat_le {xs : List V} : ∀ i H x H', YAt xs i H x H' → Le H H' := fun _ _ _ _ h => by rw [h.1]; exact .refl
/-- a method of a class: its def -/
def MetOf (K : PySem.W.Frag) (C : Addr) (m qual : Str) (st : Stmt) (ps : List Str) : Prop := ∃ f fd, Meth K C m f ∧ C8.Fun K m qual st f fd ∧ L2.Binds K fd ps []
/-- a class: its __init__ -/
def MakOf (K : PySem.W.Frag) (C : Addr) (qual : Str) (st : Stmt) (ps : List Str) : Prop := ∃ f fd, Mk K C f ∧ C8.Fun K "__init__" qual st f fd ∧ L2.Binds K fd ps []
theorem lt_put {f : Str} {v : V} {n : Nat} : ∀ {fs : List (Str × V)}, fs.length < n → (putF f v fs).length < n + 1
  | [], h => by show 1 < n + 1; have : (0 : Nat) < n := h; omega
  | (g, x) :: r, h => by
    have h' : r.length + 1 < n := h
    unfold putF
    split
    · show r.length + 1 < n + 1; omega
    · show (putF f v r).length + 1 < n + 1
      have := lt_put (f := f) (v := v) (n := n - 1) (fs := r) (by omega)
      omega
/-- a classmethod: its def -/
def ClmOf (K : PySem.W.Frag) (C : Addr) (m qual : Str) (st : Stmt) (ps : List Str) : Prop := ∃ (mc : Value) (p g : Addr) (fd : FuncData), ClX.CRead K C mc ∧ ClX.CMet K C mc m p g ∧ C8.Fun K m qual st g fd ∧ L2.Binds K fd ps []
theorem cmt0 {P : Program} {w : World} {K : PySem.W.Frag} {mg : Str → Option Value} {base : Heap} {m qual : Str} {C p g : Addr} {mc : Value} {st : Stmt} {fd : FuncData} {N ps : List Str} {k : Nat} {sp : Sp} (r : ClX.CRead K C mc) (cm : ClX.CMet K C mc m p g) (F : C8.Fun K m qual st g fd) (b : L2.Binds K fd ps []) (S : FnScope N ps (C8.fnScope st)) (len : ∀ vs H Q E, sp vs H Q E → vs.length = ps.length)
    (hbody : ∀ (cdv : Value) (A : Around) (outer : List Env) (s : Shared) (H : Hp) (vs : List V) (Q : VK) (E : XK), Room k (A.deeper (envOfC qual (C8.fnScope st) s.heap.objs.size g cdv)) → sp vs H Q E →
      ∃ t, PSs (cxOf C8.CX0 P w K mg base N qual (C8.fnScope st) g cdv A outer s H E).nox (C8.fnBody st) t ∧ t { nx := fun _ H' => Q .non H', rt := Q } (L2.start N vs) H) : CMt P w K mg base (k + 1) C m sp :=
  ⟨mc, p, g, r, cm, ((C8.fn0 F S len hbody).raw b .nil).imp fun vs H Q E h => by rw [List.append_nil]; exact h⟩
theorem szl {l : List Bool} (h : l.length ≤ 4194304) : (rowS l).length ≤ sizeLine := by rw [rowS_len]; have : sizeLine = 16777216 := sizeLine_eq; omega
theorem posl {l : List Bool} (h : l ≠ []) : 0 < ((rowS l).length : Int) := by rw [rowS_len]; have := prim_len h; omega
theorem le_szl (n : Nat) (h : n ≤ 16777216) : n ≤ sizeLine := by have : sizeLine = 16777216 := sizeLine_eq; omega
theorem le_szl' {n : Nat} (h : n < 16777216) : n < sizeLine := by have : sizeLine = 16777216 := sizeLine_eq; omega
theorem ne_of_new {H : Hp} {a b : Addr} {o : HO} (h : H a = none) (e : H b = some o) : b ≠ a := fun c => by rw [c, h] at e; cases e
theorem ne_of_new' {H : Hp} {a b : Addr} (h : H a = none) (e : ∃ kvs, H b = some (.dK kvs)) : a ≠ b := fun c => by
  obtain ⟨kvs, e⟩ := e
  rw [← c, h] at e
  cases e
end Od
end
section
set_option Elab.async false
set_option linter.all false
set_option maxRecDepth 100000
set_option maxHeartbeats 2000000
set_option autoImplicit false
namespace Od
open PySem PySem.Spec PyProof.Rows L2
theorem Room.u1 {k : Nat} {A : Around} (r : Room k A) : A.units + 1 < cLine := by have := r.units; omega
/-- list(o.values()) -/
def tListVals (td : TE) : TE := fun σ H Q => td σ H fun x H1 => ∃ a kvs, x = V.ref a ∧ H1 a = some (.dK kvs) ∧ ∀ q, H1 q = none → Q (.ref q) (upd H1 q (.lst (kvs.map (·.2))))
theorem pe_listVals {X : Cx} {o : Expr} {p pos apos mpos : Pos} {td : TE} (hc : X.calm = true) (hg : Gl X "list") (hm : X.mg "list" = none) (hd : PE X o td) (hbase : attributeBase o "values" X.env (eval o X.env) = eval o X.env := by rfl) (hline : (apos.endLine == mpos.line) = true := by rfl)
    (na : starEach [Expr.Call (.Attribute o "values" apos) [] [] mpos] X.env = (false, eval (Expr.Call (.Attribute o "values" apos) [] [] mpos) X.env) :: starEach [] X.env := by rfl) :
    PE X (.Call (.Name "list" p) [.Call (.Attribute o "values" apos) [] [] mpos] [] pos) (tListVals td) := by
  refine ⟨fun pins s σ H Q I h => ?_⟩
  refine Call_ (ld_blt I hg hm boot_list (PyProof.Rows.callWith_type1 (args_cons (wpAny_Call_method0_late hbase hline (thn (hd.run pins s σ H _ I h) fun v s1 ⟨x, H1, I1, r1, a, kvs, ex, ha, q⟩ => ?_)) na) na))
  subst ex
  obtain rfl : v = Value.ref a := r1
  obtain ⟨hz, hsys, vs, rel, dof⟩ := (show ObjOk X.prog X.w H1 s1.heap a (.dK kvs) from I1.hok a _ ha)
  obtain ⟨ep, dat⟩ := dof.dictAt
  have dat' := dat
  obtain ⟨ob, es, ho, ex, hdat, hko, hpr, hnd⟩ := dat'
  refine ⟨"dict", "dict.values", F.plainAttrs_dict, F.slot_dict_values, F.type_dict_values, ⟨ob, ho, ex.1⟩, fun b e => ?_, Calls.callWith_builtin rfl (PySem.evalArgs_none ?_)⟩
  · cases e
    exact ⟨ob, ho, ex.2.1⟩
  refine call_meetsIn F.slot_dict_values ⟨ob, ho, ex.1⟩ F.entry_dict_values (F.args_dict_values_1 _) (meets_dict_values (mixKind X.prog X.w) a hsys) ⟨⟨vs, dof⟩, ?_⟩
  refine args_nil ?_
  have k1 : ∀ b u, s1.heap.get? b = some u → (s1.heap.push { cls := .type "dict_values", data := .fields #[.ref a] }).get? b = some u := fun b u e => Heap.get?_push_of_some _ e
  have dat1 : (s1.heap.push { cls := .type "dict_values", data := .fields #[.ref a] }).DictAt (mixKind X.prog X.w) a vs ep := dat.keep k1
  have hl : kvs.length = vs.length := Paired.length rel
  have I2 : Inv X pins σ H1 { s1 with heap := s1.heap.push { cls := .type "dict_values", data := .fields #[.ref a] } } := I1.kept (t' := s1.toks) k1
  refine PySem.W.kdl_call (PySem.W.kdl_values (knd := mixKind X.prog X.w) (kvs := vs) (ep := ep)) (I2.ok.hd hc) ⟨⟨_, Heap.get?_push_size _ rfl, rfl, rfl⟩, dat1⟩ (by rw [← hl]; exact hz) fun h' tk acc' c' hkeep hS hacc => ?_
  refine ⟨.ref _, upd H1 _ (.lst (kvs.map (·.2))), I2.laid hkeep (Nat.le_refl _) (show ObjOk X.prog X.w _ _ _ (.lst (kvs.map (·.2))) from ⟨?_, acc'.toList, c', ?_, ?_⟩), rfl, q _ (I2.hok.fresh (Nat.le_refl _))⟩
  · rw [List.length_map]; exact hz
  · refine vals_of_at (by have := hacc.1; rw [List.length_map, show acc'.toList.length = acc'.size from Array.length_toList]; omega) fun j x w h1 h2 => ?_
    obtain ⟨k, hky⟩ := hacc.2 j w (by rw [← Array.getElem?_toList]; exact h2)
    obtain ⟨y, h3, h4⟩ := KV.at' rel hky
    rw [List.getElem?_map, h3] at h1
    have : y = x := by simpa using h1
    rw [← this]
    exact h4
  · rw [Array.toArray_toList]; exact hS
/-- .. the written part told, so that a comprehension's block may use them -/
theorem pe_fldK {X : Cx} {K : PySem.W.Frag} {e : Expr} {f : Str} {ta : TE} {pos : Pos} (hK : X.K = K) (h : PE X (.Attribute e f pos) (tFld X.K ta f)) : PE X (.Attribute e f pos) (tFld K ta f) := by
  subst hK
  exact h
theorem pi_listK {X : Cx} {K : PySem.W.Frag} {tg l : Expr} {tl : TE} (hK : X.K = K) (hl : PE X l tl) : PI X tg l (iList K tl) := by
  subst hK
  exact pi_list hl
end Od
end
section
set_option Elab.async false
set_option linter.all false
set_option maxRecDepth 100000
set_option maxHeartbeats 2000000
/-! {k: v for a in xs for b in ys}: a dict comprehension of two clauses (the one of one clause: HandS.DictComp; the list of two: HandS.Comp) -/
namespace Od
open PySem PySem.Spec PyProof.Rows L2
theorem compTurn2_outD (kx vx t0 i0 t1 i1 : Expr) (ifs0 ifs1 : List Expr) (scope : Scope) (pos : Pos) (it acc : Value) (env : Env) :
    compTurn (.DictComp kx vx [⟨t0, i0, ifs0, 0⟩, ⟨t1, i1, ifs1, 0⟩] scope pos) 0 it acc env = (do
      standAt i0.pos
      match ← pyNext it with
      | none => pure (.done .next)
      | some v =>
        letOwnedTupleGo t0 it v
        assign t0 env v
        let mut ok := true
        for c in ifs0 do
          if ok then ok ← isTrue c env (eval c env)
        if ok then
          let x ← eval i1 env
          standAt i1.pos
          let x ← foldedSetIterable i1 env x
          let _ ← runOwn (.compStart (.DictComp kx vx [⟨t0, i0, ifs0, 0⟩, ⟨t1, i1, ifs1, 0⟩] scope pos) 1 (← holding [x] (pyIter x)) acc env) env
        again (.compLoop (.DictComp kx vx [⟨t0, i0, ifs0, 0⟩, ⟨t1, i1, ifs1, 0⟩] scope pos) 0 it acc env)) := by rfl
theorem compTurn2_inD (kx vx t0 i0 t1 i1 : Expr) (ifs0 ifs1 : List Expr) (scope : Scope) (pos : Pos) (it : Value) (D : Addr) (env : Env) :
    compTurn (.DictComp kx vx [⟨t0, i0, ifs0, 0⟩, ⟨t1, i1, ifs1, 0⟩] scope pos) 1 it (.ref D) env = (do
      standAt i1.pos
      match ← pyNext it with
      | none => pure (.done .next)
      | some v =>
        letOwnedTupleGo t1 it v
        assign t1 env v
        let mut ok := true
        for c in ifs1 do
          if ok then ok ← isTrue c env (eval c env)
        if ok then
          (do
            let kv ← eval kx env
            let vv ← holding [kv] (eval vx env)
            standAt { kx.pos with endLine := vx.pos.endLine, endCol := vx.pos.endCol }
            holding [kv, vv] (dictSet D kv vv))
        again (.compLoop (.DictComp kx vx [⟨t0, i0, ifs0, 0⟩, ⟨t1, i1, ifs1, 0⟩] scope pos) 1 it (.ref D) env)) := by rfl

section
variable {prog : Program} {w : World} {A : Around} {R : Result → Shared → Prop} {s : Shared} {kx vx t0 i0 t1 i1 : Expr} {ifs0 ifs1 : List Expr} {scope : Scope} {pos : Pos} {it acc : Value} {env : Env}
/-- the loop of the first clause -/
theorem compLoop2_outD (hs : ∀ x, foldedSetIterable i1 env x = pure x) (I : Nat → Shared → Prop)
    (turn : ∀ n s, I n s → wpAny (model prog w) A (pyNext it) (fun r s₁ => match r with
      | none => R (.ok .next) s₁
      | some v => wpAny (model prog w) A (letOwnedTupleGo t0 it v) (fun _ s₁' => wpAny (model prog w) A (assign t0 env v) (fun _ s₂ =>
          wpAny (model prog w) A (forIn ifs0 true fun c r => if r = true then do let ok ← isTrue c env (eval c env); pure (ForInStep.yield ok) else pure (ForInStep.yield r)) (fun ok s₃ =>
            if ok = true then wpAny (model prog w) A (eval i1 env) (fun x s₄ => wpAny (model prog w) A (pyIter x) (fun it1 s₅ =>
              codeAny (model prog w) A (.compStart (.DictComp kx vx [⟨t0, i0, ifs0, 0⟩, ⟨t1, i1, ifs1, 0⟩] scope pos) 1 it1 acc env) (fun r s' => match r with
                | .ok _ => ∃ m, m < n ∧ I m s'
                | .error _ => False) s₅) (notedBy (model prog w) A env fun e s' => R (.error e) s') s₄) (notedBy (model prog w) A env fun e s' => R (.error e) s') s₃
            else ∃ m, m < n ∧ I m s₃) (notedBy (model prog w) A env fun e s' => R (.error e) s') s₂) (notedBy (model prog w) A env fun e s' => R (.error e) s') s₁') (notedBy (model prog w) A env fun e s' => R (.error e) s') s₁) (notedBy (model prog w) A env fun e s' => R (.error e) s') s)
    (n : Nat) (h : I n s) :
    codeAny (model prog w) A (.compLoop (.DictComp kx vx [⟨t0, i0, ifs0, 0⟩, ⟨t1, i1, ifs1, 0⟩] scope pos) 0 it acc env) R s := by
  refine codeAny_loop rfl I (fun n s hI => ?_) n h
  show wpAny _ A ((compTurn (.DictComp kx vx [⟨t0, i0, ifs0, 0⟩, ⟨t1, i1, ifs1, 0⟩] scope pos) 0 it acc env).onRaise (fun x => do noteFrame x env; theTreesLotGoes x)) _ _ s
  refine wpAny_noted ?_
  rw [compTurn2_outD]
  refine wpAny_bind (wpAny_standAt (wpAny_bind (wpAny_mono (turn n s hI) (fun r s₁ h₁ => ?_) fun _ _ h' => h')))
  cases r with
  | none => exact wpAny_pure h₁
  | some v =>
    refine wpAny_bind (wpAny_mono h₁ (fun _ s₁' h₁' => ?_) fun _ _ h' => h')
    refine wpAny_bind (wpAny_mono h₁' (fun _ s₂ h₂ => wpAny_bind (wpAny_mono h₂ (fun ok s₃ h₃ => ?_) fun _ _ h' => h')) fun _ _ h' => h')
    cases ok with
    | false => exact wpAny_pure ⟨rfl, h₃⟩
    | true =>
      refine wpAny_bind (wpAny_mono h₃ (fun x s₄ h₄ => ?_) fun _ _ h' => h')
      refine wpAny_bind (wpAny_standAt (wpAny_bind (wpAny_of_eq (hs x) (wpAny_bind (wpAny_holding (wpAny_mono h₄ (fun it1 s₅ h₅ => ?_) fun _ _ h' => h'))))))
      refine wpAny_bind (wpAny_runOwn ?_)
      rw [Around.mark_none]
      refine codeAny_mono h₅ fun r s' hr => ?_
      cases r with
      | ok f =>
        first
          | exact wpAny_pure ⟨rfl, hr⟩
          | exact wpAny_bind (wpAny_pure (wpAny_pure ⟨rfl, hr⟩))
      | error e => exact hr.elim
/-- the loop of the second -/
theorem compLoop2_inD {D : Addr} (I : Nat → Shared → Prop)
    (turn : ∀ n s, I n s → wpAny (model prog w) A (pyNext it) (fun r s₁ => match r with
      | none => R (.ok .next) s₁
      | some v => wpAny (model prog w) A (letOwnedTupleGo t1 it v) (fun _ s₁' => wpAny (model prog w) A (assign t1 env v) (fun _ s₂ =>
          wpAny (model prog w) A (forIn ifs1 true fun c r => if r = true then do let ok ← isTrue c env (eval c env); pure (ForInStep.yield ok) else pure (ForInStep.yield r)) (fun ok s₃ =>
            if ok = true then wpAny (model prog w) A (eval kx env) (fun kv s₄ => wpAny (model prog w) A (eval vx env) (fun vv s₅ =>
              wpAny (model prog w) A (dictSet D kv vv) (fun _ s₆ => ∃ m, m < n ∧ I m s₆) (notedBy (model prog w) A env fun e s' => R (.error e) s') s₅) (notedBy (model prog w) A env fun e s' => R (.error e) s') s₄) (notedBy (model prog w) A env fun e s' => R (.error e) s') s₃
            else ∃ m, m < n ∧ I m s₃) (notedBy (model prog w) A env fun e s' => R (.error e) s') s₂) (notedBy (model prog w) A env fun e s' => R (.error e) s') s₁') (notedBy (model prog w) A env fun e s' => R (.error e) s') s₁) (notedBy (model prog w) A env fun e s' => R (.error e) s') s)
    (n : Nat) (h : I n s) :
    codeAny (model prog w) A (.compLoop (.DictComp kx vx [⟨t0, i0, ifs0, 0⟩, ⟨t1, i1, ifs1, 0⟩] scope pos) 1 it (.ref D) env) R s := by
  refine codeAny_loop rfl I (fun n s hI => ?_) n h
  show wpAny _ A ((compTurn (.DictComp kx vx [⟨t0, i0, ifs0, 0⟩, ⟨t1, i1, ifs1, 0⟩] scope pos) 1 it (.ref D) env).onRaise (fun x => do noteFrame x env; theTreesLotGoes x)) _ _ s
  refine wpAny_noted ?_
  rw [compTurn2_inD]
  refine wpAny_bind (wpAny_standAt (wpAny_bind (wpAny_mono (turn n s hI) (fun r s₁ h₁ => ?_) fun _ _ h' => h')))
  cases r with
  | none => exact wpAny_pure h₁
  | some v =>
    refine wpAny_bind (wpAny_mono h₁ (fun _ s₁' h₁' => ?_) fun _ _ h' => h')
    refine wpAny_bind (wpAny_mono h₁' (fun _ s₂ h₂ => wpAny_bind (wpAny_mono h₂ (fun ok s₃ h₃ => ?_) fun _ _ h' => h')) fun _ _ h' => h')
    cases ok with
    | false => exact wpAny_pure ⟨rfl, h₃⟩
    | true =>
      exact wpAny_bind (wpAny_bind (wpAny_mono h₃ (fun kv s₄ h₄ => wpAny_bind (wpAny_holding (wpAny_mono h₄ (fun vv s₅ h₅ => wpAny_bind (wpAny_standAt (wpAny_holding (wpAny_mono h₅ (fun _ s₆ h₆ => wpAny_pure ⟨rfl, h₆⟩) fun _ _ h' => h')))) fun _ _ h' => h'))) fun _ _ h' => h'))
/-- the second clause's start -/
theorem compStart1_okD (h0 : codeAny (model prog w) A (.compLoop (.DictComp kx vx [⟨t0, i0, ifs0, 0⟩, ⟨t1, i1, ifs1, 0⟩] scope pos) 1 it acc env) R s)
    (h : wpAny (model prog w) A (pyIter it) (fun it' s' => codeAny (model prog w) A (.compLoop (.DictComp kx vx [⟨t0, i0, ifs0, 0⟩, ⟨t1, i1, ifs1, 0⟩] scope pos) 1 it' acc env) R s')
      (notedBy (model prog w) A env fun x s' => R (.error x) s') s) :
    codeAny (model prog w) A (.compStart (.DictComp kx vx [⟨t0, i0, ifs0, 0⟩, ⟨t1, i1, ifs1, 0⟩] scope pos) 1 it acc env) R s := by
  refine codeAny_of_tree ?_
  show wpAny _ _ ((compStart (.DictComp kx vx [⟨t0, i0, ifs0, 0⟩, ⟨t1, i1, ifs1, 0⟩] scope pos) 1 it acc env).onRaise (fun x => do noteFrame x env; standAt theWindowsPlace)) _ _ s
  refine wpAny_notedAt ?_
  unfold compStart
  show wpAny _ _ (ask >>= _) _ _ s
  refine wpAny_bind (wpAny_askSetting (wpAny_ite ?_))
  split
  · first
      | exact wpAny_bind (wpAny_pure (wpAny_pure (And.intro rfl h0)))
      | exact wpAny_pure (And.intro rfl h0)
  · first
      | exact wpAny_bind (wpAny_rule (wpAny_bind (wpAny_standAt (wpAny_bind (wpAny_mono h (fun it' s' h' => wpAny_pure (And.intro rfl h')) fun _ _ x => x)))))
      | (refine wpAny_bind (wpAny_rule ?_); show wpAny _ _ (standAt i1.pos >>= _) _ _ s; exact wpAny_bind (wpAny_standAt (wpAny_bind (wpAny_mono h (fun it' s' h' => wpAny_pure (And.intro rfl h')) fun _ _ x => x))))
end

section
variable {X : Cx}
/-- [elt for tg in iter if .. for tg1 in iter1 if ..]: behind the first clause's store and tests the second source's own loop, from which Nx is reached. vs: the block's names; vs1: those of the second target -/
def tLc2D (wi : TI) (g : TG) (tt : TT) (wi1 : TI) (g1 : TG) (tt1 : TT) (tk tv : TE) (vs vs1 : List Nat) : TE := fun σ H Q => wi σ H fun J H1 => ∀ D, H1 D = none → ∃ W : Nat → Nat → Hp → Prop, (∃ m, W 0 m (upd H1 D (.dK []))) ∧ ∀ i m H, W i m H →
  (J.stop i H ∧ Q (.ref D) H) ∨ (J.go i H ∧ ∃ Nx : Hp → Prop, (∀ H', Nx H' → ∃ m', m' < m ∧ W (i + 1) m' H') ∧ ∀ x H', J.yld i H x H' → g x (wipe σ vs) H' fun σ2 H2 => wipe σ2 vs = wipe σ vs ∧ tt σ2 H2 fun b H3 =>
    if b = true then wi1 σ2 H3 fun J1 H4 => ∃ W1 : Nat → Nat → Hp → Prop, (∃ m, W1 0 m H4) ∧ ∀ j k H, W1 j k H →
      (J1.stop j H ∧ Nx H) ∨ (J1.go j H ∧ ∃ Nx1 : Hp → Prop, (∀ H', Nx1 H' → ∃ k', k' < k ∧ W1 (j + 1) k' H') ∧ ∀ x H', J1.yld j H x H' → g1 x (wipe σ2 vs1) H' fun σ3 H5 => wipe σ3 vs1 = wipe σ2 vs1 ∧ tt1 σ3 H5 fun b H6 =>
        if b = true then tk σ3 H6 fun y H7 => tv σ3 H7 fun z H8 => ∃ kvs k, y = kV k ∧ H8 D = some (.dK kvs) ∧ kvs.length < sizeLine ∧ Nx1 (upd H8 D (.dK (putK kvs k z))) else Nx1 H6)
    else Nx H3)
theorem lc2_coreD {pins : List (Addr × Obj)} {s : Shared} {σ : L2.St} {H : Hp} {Q : VK} {kx vx tg iter tg1 iter1 : Expr} {ifs ifs1 : List Expr} {scope : Scope} {own : List (Str × Nat)} {vs1 : List Nat} {pos pos' : Pos} {wi wi1 : TI} {g g1 : TG} {tt tt1 : TT} {tk tv : TE} {use : Option (Value → Sem Unit)} {Qf : Value → Shared → Prop}
    (hc : X.calm = true) (hN : X.N.Nodup) (I : Inv X pins σ H s) (hi : PI X tg iter wi) (ok : BlkOk X.N X.env.scope scope own) (hv : ∀ i ∈ vs1, i ∈ own.map (·.2))
    (hg : ∀ (s : Shared) (H : Hp) (C : Addr) (cl : List (Str × Addr)) (fp : List Addr), PG (X.blk s H scope (compEnvC scope cl C X.env) fp) tg g) (ht : ∀ (s : Shared) (H : Hp) (C : Addr) (cl : List (Str × Addr)) (fp : List Addr), PTs (X.blk s H scope (compEnvC scope cl C X.env) fp) ifs tt)
    (hk : ∀ (s : Shared) (H : Hp) (C : Addr) (cl : List (Str × Addr)) (fp : List Addr), PE (X.blk s H scope (compEnvC scope cl C X.env) fp) kx tk) (he : ∀ (s : Shared) (H : Hp) (C : Addr) (cl : List (Str × Addr)) (fp : List Addr), PE (X.blk s H scope (compEnvC scope cl C X.env) fp) vx tv) (hs : ∀ x, foldedSetIterable iter X.env x = pure x)
    (hi1 : ∀ (s : Shared) (H : Hp) (C : Addr) (cl : List (Str × Addr)) (fp : List Addr), PI (X.blk s H scope (compEnvC scope cl C X.env) fp) tg1 iter1 wi1)
    (hg1 : ∀ (s : Shared) (H : Hp) (C : Addr) (cl : List (Str × Addr)) (fp : List Addr), PG (X.blk s H scope (compEnvC scope cl C X.env) fp) tg1 g1)
    (ht1 : ∀ (s : Shared) (H : Hp) (C : Addr) (cl : List (Str × Addr)) (fp : List Addr), PTs (X.blk s H scope (compEnvC scope cl C X.env) fp) ifs1 tt1)
    (hs1 : ∀ env x, foldedSetIterable iter1 env x = pure x)
    (h : tLc2D wi g tt wi1 g1 tt1 tk tv (own.map (·.2)) vs1 σ H Q)
    (hRR : ∀ D C s' m H', Inv X pins σ H' s' → Q (.ref D) H' → s'.heap.Ns C m → FpOk X pins H' C → compPost (model X.prog X.w) X.A X.xe use Qf (.ref D) C (.ok .next) s') :
    wpAny (model X.prog X.w) X.A (comprehension (.DictComp kx vx [⟨tg, iter, ifs, 0⟩, ⟨tg1, iter1, ifs1, 0⟩] scope pos) scope X.env pos' newDict false (eval iter X.env) use) Qf X.xe s := by
  have hfree : ∀ y ∈ scope.names, y.2 = .free → ∃ c, X.env.cells.lookup y.1 = some c := fun y hy e => by
    rcases ok.free y hy e with k | k
    · exact I.ok.has _ (.inl k)
    · exact I.ok.has _ (.inr k)
  refine wpAny_comprehension_free (use := use) rfl hs (closure_ok hfree) ok.kind (fun y hy e => by rw [ok.uniq y hy, e])
    (thn (hi.run pins s σ H _ I h) fun xv s1 hx => thn hx fun itv s2 h2 => ?_)
  obtain ⟨it, fp, tn, J, H2, e, I2, T, st2, f2, q⟩ := h2
  subst e
  refine wpAny_newObj_type (newEnv_comp ?_)
  generalize hD : s2.heap.objs.size = D
  have hDn : H2 D = none := I2.hok.fresh (Nat.le_of_eq hD)
  obtain ⟨W, ⟨m0, w0⟩, turn⟩ := q D hDn
  -- the new list
  generalize hs3 : ({ s2 with heap := s2.heap.push { cls := .type "dict", data := .dict #[] } } : Shared) = s3
  have I3 : Inv X pins σ (upd H2 D (.dK [])) s3 := by
    rw [← hs3]
    refine I2.laid (t' := s2.toks) (fun b o e => Heap.get?_push_of_some _ e) (Nat.le_of_eq hD) ?_
    rw [← hD]
    exact dk_empty s2.heap I2.big
  have h3 : s3.heap = s2.heap.push { cls := .type "dict", data := .dict #[] } := by rw [← hs3]
  have sz : ∀ b ∈ fp, b < s2.heap.objs.size := fun b hb => by
    obtain ⟨o, e, _⟩ := T.obj _ _ st2 b hb
    exact Heap.lt_size e
  have f3 : ∀ b ∈ fp, FpOk X pins (upd H2 D (.dK [])) b ∧ b < s3.heap.objs.size := fun b hb => by
    have hlt := sz b hb
    refine ⟨⟨?_, (f2 b hb).2⟩, by rw [h3, Heap.size_push]; exact Nat.lt_succ_of_lt hlt⟩
    rw [upd_ne (by rw [← hD]; exact Nat.ne_of_lt hlt)]
    exact (f2 b hb).1
  have st3 : tn 0 s3.heap := T.keep _ _ _ st2 fun b _ o e => by rw [h3]; exact Heap.get?_push_of_some _ e
  have I4 := block_start I3 ok hN f3
  have pg := hg s3 (upd H2 D (.dK [])) s3.heap.objs.size (cellsFrom (s3.heap.objs.size + 1) scope.names (cloFrom X.env.cells scope.names [])) fp
  have pt := ht s3 (upd H2 D (.dK [])) s3.heap.objs.size (cellsFrom (s3.heap.objs.size + 1) scope.names (cloFrom X.env.cells scope.names [])) fp
  have pk := hk s3 (upd H2 D (.dK [])) s3.heap.objs.size (cellsFrom (s3.heap.objs.size + 1) scope.names (cloFrom X.env.cells scope.names [])) fp
  have pe := he s3 (upd H2 D (.dK [])) s3.heap.objs.size (cellsFrom (s3.heap.objs.size + 1) scope.names (cloFrom X.env.cells scope.names [])) fp
  have pi1 := hi1 s3 (upd H2 D (.dK [])) s3.heap.objs.size (cellsFrom (s3.heap.objs.size + 1) scope.names (cloFrom X.env.cells scope.names [])) fp
  have pg1 := hg1 s3 (upd H2 D (.dK [])) s3.heap.objs.size (cellsFrom (s3.heap.objs.size + 1) scope.names (cloFrom X.env.cells scope.names [])) fp
  have pt1 := ht1 s3 (upd H2 D (.dK [])) s3.heap.objs.size (cellsFrom (s3.heap.objs.size + 1) scope.names (cloFrom X.env.cells scope.names [])) fp
  show codeAny _ _ (.compStart (.DictComp kx vx [⟨tg, iter, ifs, 0⟩, ⟨tg1, iter1, ifs1, 0⟩] scope pos) 0 (.ref it) (.ref D) (compEnvC scope (cellsFrom (s3.heap.objs.size + 1) scope.names (cloFrom X.env.cells scope.names [])) s3.heap.objs.size X.env)) (compPost (model X.prog X.w) X.A X.xe use Qf (.ref D) s3.heap.objs.size) { s3 with heap := pushCells (s3.heap.push { cls := .type "dict", data := .dict #[] }) scope.names }
  have nfp : ∀ b ∈ fp, (upd H2 D (.dK [])) b = none := fun b hb => (f3 b hb).1.1
  generalize hce : compEnvC scope (cellsFrom (s3.heap.objs.size + 1) scope.names (cloFrom X.env.cells scope.names [])) s3.heap.objs.size X.env = ce at I4 pg pt pk pe pi1 pg1 pt1 ⊢
  have cL : ce.locals = s3.heap.objs.size := by subst hce; rfl
  generalize hH3 : upd H2 D (.dK []) = H3 at I3 I4 pg pt pk pe pi1 pg1 pt1 w0 nfp f3
  generalize hs4 : ({ s3 with heap := pushCells (s3.heap.push { cls := .type "dict", data := .dict #[] }) scope.names } : Shared) = s4 at I4 ⊢
  have st4 : tn 0 s4.heap := T.keep _ _ _ st3 fun b _ o e => by rw [← hs4]; exact pushCells_keeps _ _ _ _ (Heap.get?_push_of_some _ e)
  have stat : ∀ {σ' : L2.St} {H' : Hp} {s' : Shared}, Inv (X.blk s3 H3 scope ce fp) [] σ' H' s' → (∀ b ∈ fp, H' b = none) → ∀ b ∈ fp, FpOk (X.blk s3 H3 scope ce fp) [] H' b := fun {σ' H' s'} I' hn b hb =>
    ⟨hn b hb, (I'.ok.exf b hb).1, I'.ok.exfs b hb, .inl hb, fun x c e => (I'.ok.exf b hb).2 x c e, fun p hp => absurd (show p ∈ ([] : List (Addr × Obj)) ++ [] from hp) (by simp)⟩
  have loop : codeAny (model X.prog X.w) X.A (.compLoop (.DictComp kx vx [⟨tg, iter, ifs, 0⟩, ⟨tg1, iter1, ifs1, 0⟩] scope pos) 0 (.ref it) (.ref D) ce) (compPost (model X.prog X.w) X.A X.xe use Qf (.ref D) s3.heap.objs.size) s4 := by
    refine compLoop2_outD (hs1 ce) (fun n s' => ∃ i H', Inv (X.blk s3 H3 scope ce fp) [] (wipe σ (own.map (·.2))) H' s' ∧ tn i s'.heap ∧ (∀ b ∈ fp, H' b = none) ∧ W i n H') ?_ m0 ⟨0, H3, I4, st4, nfp, w0⟩
    rintro n s5 ⟨i, H5, I5, st5, n5, w5⟩
    rcases turn i n H5 w5 with ⟨stop, qq⟩ | ⟨go, Nx, hNx, step⟩
    · have td := T.done (X.blk s3 H3 scope ce fp) rfl rfl rfl hc i [] s5 _ H5 (fun _ _ => False) I5 (stat I5 n5) st5 stop
      refine thnF td fun r s6 ⟨hr, I6⟩ => ?_
      subst hr
      -- back in the def's context
      have I7 : Inv X pins σ H5 s6 := I3.call' (ch := fp) I6.os I6.base I6.hok I6.bare fun b hb => ⟨(f3 b hb).1.2.2.2.1, (f3 b hb).1.2.1, (f3 b hb).1.2.2.2.2.1, (f3 b hb).1.2.2.2.2.2⟩
      have nC : H5 s3.heap.objs.size = none := by
        have z : H5 ce.locals = none := I6.free
        rw [cL] at z
        exact z
      obtain ⟨m, hn, _⟩ := I6.loc
      have hn : s6.heap.Ns ce.locals m := hn
      rw [cL] at hn
      exact hRR D s3.heap.objs.size s6 m H5 I7 qq hn (I3.fpOk (Nat.le_refl _) nC)
    · have ti := T.item (X.blk s3 H3 scope ce fp) rfl rfl rfl hc i [] s5 _ H5 (fun _ _ => False) I5 (stat I5 n5) st5 go
      refine thnF ti fun r s6 ⟨u, hr, h6⟩ => ?_
      subst hr
      refine thnF h6 fun _ s7 ⟨x, H7, I7, r7, y7, st7, n7⟩ => ?_
      have I7' := I7.pinned (stat I7 n7) (T.obj _ _ st7)
      refine thnF (pg.run _ s7 _ H7 x u _ I7' r7 (step x H7 y7)) fun _ s8 ⟨σ8, H8, I8, hw8, q8⟩ => ?_
      refine thnF (pt.run _ s8 σ8 H8 _ I8 q8) fun b s9 ⟨H9, I9, q9⟩ => ?_
      -- the turn's end, from any slots that know what the block knew at its start
      have fin : ∀ {σ9 : L2.St} {s' : Shared} {H' : Hp}, Inv (X.blk s3 H3 scope ce fp) ([] ++ pinsAt fp s7.heap) σ9 H' s' → (wipe σ (own.map (·.2))).length = σ9.length → (∀ (j : Nat) v, (wipe σ (own.map (·.2)))[j]? = some (some v) → σ9[j]? = some (some v)) → Nx H' →
          ∃ m, m < n ∧ ∃ i H', Inv (X.blk s3 H3 scope ce fp) [] (wipe σ (own.map (·.2))) H' s' ∧ tn i s'.heap ∧ (∀ b ∈ fp, H' b = none) ∧ W i m H' := fun {σ9 s' H'} I' hl hk nx => by
        obtain ⟨m', hm, w'⟩ := hNx H' nx
        have pin' : ∀ b ∈ fp, ∀ o, s7.heap.get? b = some o → s'.heap.get? b = some o ∧ H' b = none := fun b hb o e =>
          let z := I'.pin (b, o) (List.mem_append_right _ (List.mem_append_right _ (mem_pinsAt hb e)))
          ⟨z.1, z.2.1⟩
        refine ⟨m', hm, i + 1, H', (I'.unpinned (pins := [])).weak hl hk, T.keep _ _ _ st7 fun b hb o e => (pin' b hb o e).1, fun b hb => ?_, w'⟩
        obtain ⟨o, e, _⟩ := T.obj _ _ st7 b hb
        exact (pin' b hb o e).2
      have hl8 : (wipe σ (own.map (·.2))).length = σ8.length := by rw [← hw8, wipe_length]
      have hk8 : ∀ (j : Nat) v, (wipe σ (own.map (·.2)))[j]? = some (some v) → σ8[j]? = some (some v) := fun j v e => by
        rw [← hw8] at e
        exact (wipe_some e).1
      have hk9 : ∀ (j : Nat) v, (wipe σ (own.map (·.2)))[j]? = some (some v) → (wipe σ8 vs1)[j]? = some (some v) := fun j v e => by
        rw [← hw8] at e
        obtain ⟨e1, e2⟩ := wipe_some e
        rw [wipe_out fun z => e2 (hv j z)]
        exact e1
      cases b with
      | false =>
        simp only [Bool.false_eq_true, if_false] at q9 ⊢
        exact fin I9 hl8 hk8 q9
      | true =>
        simp only [if_true] at q9 ⊢
        refine thnF (pi1.run _ s9 σ8 H9 _ I9 q9) fun xv s10 hx => thnF hx fun itv s11 h11 => ?_
        obtain ⟨it1, fp1, tn1, J1, H11, e1, I11, T1, st11, f11, W1, ⟨m1, w1⟩, turn1⟩ := h11
        subst e1
        -- the inner loop
        have stat1 : ∀ {H' : Hp}, (∀ b ∈ fp1, H' b = none) → ∀ b ∈ fp1, FpOk (X.blk s3 H3 scope ce fp) ([] ++ pinsAt fp s7.heap) H' b := fun hn b hb => ⟨hn b hb, (f11 b hb).2⟩
        have loop1 : codeAny (model X.prog X.w) X.A (.compLoop (.DictComp kx vx [⟨tg, iter, ifs, 0⟩, ⟨tg1, iter1, ifs1, 0⟩] scope pos) 1 (.ref it1) (.ref D) ce)
            (fun r s' => match r with
              | .ok _ => ∃ m, m < n ∧ ∃ i H', Inv (X.blk s3 H3 scope ce fp) [] (wipe σ (own.map (·.2))) H' s' ∧ tn i s'.heap ∧ (∀ b ∈ fp, H' b = none) ∧ W i m H'
              | .error _ => False) s11 := by
          refine compLoop2_inD (fun k s' => ∃ j H', Inv (X.blk s3 H3 scope ce fp) ([] ++ pinsAt fp s7.heap) (wipe σ8 vs1) H' s' ∧ tn1 j s'.heap ∧ (∀ b ∈ fp1, H' b = none) ∧ W1 j k H') ?_ m1 ⟨0, H11, I11.weak (wipe_length _ _) (fun j v e => (wipe_some e).1), st11, fun b hb => (f11 b hb).1, w1⟩
          rintro k s12 ⟨j, H12, I12, st12, n12, w12⟩
          rcases turn1 j k H12 w12 with ⟨stop1, nx1⟩ | ⟨go1, Nx1, hNx1, step1⟩
          · refine thnF (T1.done (X.blk s3 H3 scope ce fp) rfl rfl rfl hc j _ s12 (wipe σ8 vs1) H12 (fun _ _ => False) I12 (stat1 n12) st12 stop1) fun r s13 ⟨hr, I13⟩ => ?_
            subst hr
            exact fin I13 (hl8.trans (wipe_length σ8 vs1).symm) hk9 nx1
          · refine thnF (T1.item (X.blk s3 H3 scope ce fp) rfl rfl rfl hc j _ s12 (wipe σ8 vs1) H12 (fun _ _ => False) I12 (stat1 n12) st12 go1) fun r s13 ⟨u1, hr, h13⟩ => ?_
            subst hr
            refine thnF h13 fun _ s14 ⟨x1, H14, I14, r14, y14, st14, n14⟩ => ?_
            have I14' := I14.pinned (stat1 n14) (T1.obj _ _ st14)
            refine thnF (pg1.run _ s14 (wipe σ8 vs1) H14 x1 u1 _ I14' r14 (step1 x1 H14 y14)) fun _ s15 ⟨σ15, H15, I15, hw15, q15⟩ => ?_
            refine thnF (pt1.run _ s15 σ15 H15 _ I15 q15) fun b1 s16 ⟨H16, I16, q16⟩ => ?_
            have fin1 : ∀ {s' : Shared} {H' : Hp}, Inv (X.blk s3 H3 scope ce fp) (([] ++ pinsAt fp s7.heap) ++ pinsAt fp1 s14.heap) σ15 H' s' → Nx1 H' → ∃ m, m < k ∧ ∃ j H', Inv (X.blk s3 H3 scope ce fp) ([] ++ pinsAt fp s7.heap) (wipe σ8 vs1) H' s' ∧ tn1 j s'.heap ∧ (∀ b ∈ fp1, H' b = none) ∧ W1 j m H' := fun {s' H'} I' nx => by
              obtain ⟨m', hm, w'⟩ := hNx1 H' nx
              have pin' : ∀ b ∈ fp1, ∀ o, s14.heap.get? b = some o → s'.heap.get? b = some o ∧ H' b = none := fun b hb o e =>
                let z := I'.pin (b, o) (List.mem_append_right _ (List.mem_append_right _ (mem_pinsAt hb e)))
                ⟨z.1, z.2.1⟩
              refine ⟨m', hm, j + 1, H', I'.unpinned.weak (by rw [← hw15, wipe_length]) (fun j v e => by rw [← hw15] at e; exact (wipe_some e).1), T1.keep _ _ _ st14 fun b hb o e => (pin' b hb o e).1, fun b hb => ?_, w'⟩
              obtain ⟨o, e, _⟩ := T1.obj _ _ st14 b hb
              exact (pin' b hb o e).2
            cases b1 with
            | false =>
              simp only [Bool.false_eq_true, if_false] at q16 ⊢
              exact fin1 I16 q16
            | true =>
              simp only [if_true] at q16 ⊢
              refine thnF (pk.run _ s16 σ15 H16 _ I16 q16) fun z s17 ⟨yk, H17, I17, r17, q17⟩ => ?_
              refine thnF (pe.run _ s17 σ15 H17 _ I17 q17) fun z2 s18 ⟨yv, H18, I18, r18, kvs, k, ek, hD18, hz18, nx⟩ => ?_
              subst ek
              exact d_dictSet (X := X.blk s3 H3 scope ce fp) I18 hD18 hz18 r17 r18 fun s19 I19 => fin1 I19 nx
        exact compStart1_okD loop1 (T1.self X.A 0 _ _ _ st11 loop1)
  exact codeAny_compStart_dict loop (T.self X.A 0 _ _ _ st4 loop)

theorem pe_lc2D {kx vx tg iter tg1 iter1 : Expr} {ifs ifs1 : List Expr} {scope : Scope} {own : List (Str × Nat)} {vs1 : List Nat} {pos : Pos} {wi wi1 : TI} {g g1 : TG} {tt tt1 : TT} {tk tv : TE} (hc : X.calm = true) (hN : X.N.Nodup) (hi : PI X tg iter wi) (ok : BlkOk X.N X.env.scope scope own) (hv : ∀ i ∈ vs1, i ∈ own.map (·.2))
    (hg : ∀ (s : Shared) (H : Hp) (C : Addr) (cl : List (Str × Addr)) (fp : List Addr), PG (X.blk s H scope (compEnvC scope cl C X.env) fp) tg g) (ht : ∀ (s : Shared) (H : Hp) (C : Addr) (cl : List (Str × Addr)) (fp : List Addr), PTs (X.blk s H scope (compEnvC scope cl C X.env) fp) ifs tt)
    (hi1 : ∀ (s : Shared) (H : Hp) (C : Addr) (cl : List (Str × Addr)) (fp : List Addr), PI (X.blk s H scope (compEnvC scope cl C X.env) fp) tg1 iter1 wi1)
    (hg1 : ∀ (s : Shared) (H : Hp) (C : Addr) (cl : List (Str × Addr)) (fp : List Addr), PG (X.blk s H scope (compEnvC scope cl C X.env) fp) tg1 g1) (ht1 : ∀ (s : Shared) (H : Hp) (C : Addr) (cl : List (Str × Addr)) (fp : List Addr), PTs (X.blk s H scope (compEnvC scope cl C X.env) fp) ifs1 tt1)
    (hk : ∀ (s : Shared) (H : Hp) (C : Addr) (cl : List (Str × Addr)) (fp : List Addr), PE (X.blk s H scope (compEnvC scope cl C X.env) fp) kx tk) (he : ∀ (s : Shared) (H : Hp) (C : Addr) (cl : List (Str × Addr)) (fp : List Addr), PE (X.blk s H scope (compEnvC scope cl C X.env) fp) vx tv) (hs : ∀ x, foldedSetIterable iter X.env x = pure x := by intro _; rfl) (hs1 : ∀ env x, foldedSetIterable iter1 env x = pure x := by intro _ _; rfl) :
    PE X (.DictComp kx vx [⟨tg, iter, ifs, 0⟩, ⟨tg1, iter1, ifs1, 0⟩] scope pos) (tLc2D wi g tt wi1 g1 tt1 tk tv (own.map (·.2)) vs1) := by
  refine ⟨fun pins s σ H Q I h => ?_⟩
  rw [arm_eval_DictComp]
  refine lc2_coreD hc hN I hi ok hv hg ht hk he hs hi1 hg1 ht1 hs1 h fun D C s' m H' I' q hn f => ⟨m, hn, fun h'' sb => ?_⟩
  obtain ⟨f0, f1, f2, f3, f4, f5⟩ := f
  exact ⟨.ref D, H', I'.turned (t' := s'.toks) (fun b o hb e => (sb.2 b hb).trans e) f0 f1 f3 f4 f5, rfl, q⟩
end
end Od
end
section
set_option Elab.async false
set_option linter.all false
set_option maxRecDepth 100000
set_option maxHeartbeats 2000000
/-! name = {..}: a dict comprehension given to a local on one line -/
namespace Od
open PySem PySem.Spec PyProof.Rows L2
theorem swD_true {kx vx : Expr} {gs : List Comprehension} {scope : Scope} {pos py : Pos} {y : Str} {l : Nat} {env : Env} (hk : env.scope.kind = .function) (hy : env.scope.names.lookup y = some .local) (hl : (py.line == pos.line) = true)
    (ha : (scope.names.any fun (n, k) => n == y && (k == .local || k == .cell)) = false) : swapsWith (.DictComp kx vx gs scope pos) (some (.Name y py)) l env = pure true := by
  have ky : env.kindOf y = some .local := hy
  have hb : env.blockKind = .function := by unfold Env.blockKind; rw [hk]; rfl
  unfold swapsWith
  simp only [hb, ky, ha, Expr.pos, hl]
  rfl
section
variable {X : Cx}
theorem ps_setDc {i : Nat} {y : Str} {py : Pos} {kx vx tg iter : Expr} {ifs : List Expr} {scope : Scope} {own : List (Str × Nat)} {pos spos : Pos} {wi : TI} {g : TG} {tt : TT} {tk tv : TE} (hc : X.calm = true) (hN : X.N.Nodup) (hy : X.N[i]? = some y) (hyl : X.env.scope.names.lookup y = some .local)
    (hsw : swapsWith (.DictComp kx vx [⟨tg, iter, ifs, 0⟩] scope pos) (some (.Name y py)) spos.line X.env = pure true) (hi : PI X tg iter wi) (ok : BlkOk X.N X.env.scope scope own)
    (hg : ∀ (s : Shared) (H : Hp) (C : Addr) (cl : List (Str × Addr)) (fp : List Addr), PG (X.blk s H scope (compEnvC scope cl C X.env) fp) tg g) (ht : ∀ (s : Shared) (H : Hp) (C : Addr) (cl : List (Str × Addr)) (fp : List Addr), PTs (X.blk s H scope (compEnvC scope cl C X.env) fp) ifs tt)
    (hk : ∀ (s : Shared) (H : Hp) (C : Addr) (cl : List (Str × Addr)) (fp : List Addr), PE (X.blk s H scope (compEnvC scope cl C X.env) fp) kx tk)
    (he : ∀ (s : Shared) (H : Hp) (C : Addr) (cl : List (Str × Addr)) (fp : List Addr), PE (X.blk s H scope (compEnvC scope cl C X.env) fp) vx tv) (hs : ∀ x, foldedSetIterable iter X.env x = pure x := by intro _; rfl) :
    PS X (.Assign [.Name y py] (.DictComp kx vx [⟨tg, iter, ifs, 0⟩] scope pos) spos) (tAsg (tDc wi g tt tk tv (own.map (·.2))) (gName i)) := by
  refine ⟨fun pins s σ H D I h => ?_⟩
  rw [exec_Assign_Name_used _ _ _ _ hsw]
  refine wpAny_bind (wpAny_standAt (wpAny_bind ?_))
  show wpAny _ X.A (do let _ ← comprehension (.DictComp kx vx [⟨tg, iter, ifs, 0⟩] scope pos) scope X.env (firstIterPos [⟨tg, iter, ifs, 0⟩] pos) newDict false (eval iter X.env) (some (assign (.Name y py) X.env))) _ _ s
  have h : tDc wi g tt tk tv (own.map (·.2)) σ H (fun x H1 => gName i x σ H1 D.nx) := h
  refine wpAny_bind (thn (dc_core (Qf := fun _ s' => SP X pins D .next s') hc hN I hi ok hg ht hk he hs h fun L C s' m H' I' q hn f => ?_) fun _ s' hq => wpAny_pure (wpAny_pure hq))
  show wpAny _ _ (assign (.Name y py) X.env (.ref L)) _ _ _
  refine wpAny_assign_Name (store_ok2 (v := V.ref L) I' hN hy (.inl hyl) rfl (fun s2 I2 ⟨a, sb, ha⟩ => ?_) (.inr hyl))
  obtain ⟨f0, f1, f2, f3, f4, f5⟩ := f
  have haC : C ≠ a := by
    rcases ha with z | z
    · rw [z]; exact f1
    · exact fun e => f4 y a z e.symm
  refine ⟨m, hn.sameBut sb haC, fun h3 sb3 => ?_⟩
  exact ⟨_, H', I2.turned (t' := s2.toks) (fun b o hb e => (sb3.2 b hb).trans e) f0 f1 f3 f4 f5, q⟩
theorem ps_setDc2 {i : Nat} {y : Str} {py : Pos} {kx vx tg iter tg1 iter1 : Expr} {ifs ifs1 : List Expr} {scope : Scope} {own : List (Str × Nat)} {vs1 : List Nat} {pos spos : Pos} {wi wi1 : TI} {g g1 : TG} {tt tt1 : TT} {tk tv : TE} (hc : X.calm = true) (hN : X.N.Nodup) (hy : X.N[i]? = some y) (hyl : X.env.scope.names.lookup y = some .local)
    (hsw : swapsWith (.DictComp kx vx [⟨tg, iter, ifs, 0⟩, ⟨tg1, iter1, ifs1, 0⟩] scope pos) (some (.Name y py)) spos.line X.env = pure true) (hi : PI X tg iter wi) (ok : BlkOk X.N X.env.scope scope own) (hv : ∀ i ∈ vs1, i ∈ own.map (·.2))
    (hg : ∀ (s : Shared) (H : Hp) (C : Addr) (cl : List (Str × Addr)) (fp : List Addr), PG (X.blk s H scope (compEnvC scope cl C X.env) fp) tg g) (ht : ∀ (s : Shared) (H : Hp) (C : Addr) (cl : List (Str × Addr)) (fp : List Addr), PTs (X.blk s H scope (compEnvC scope cl C X.env) fp) ifs tt)
    (hi1 : ∀ (s : Shared) (H : Hp) (C : Addr) (cl : List (Str × Addr)) (fp : List Addr), PI (X.blk s H scope (compEnvC scope cl C X.env) fp) tg1 iter1 wi1)
    (hg1 : ∀ (s : Shared) (H : Hp) (C : Addr) (cl : List (Str × Addr)) (fp : List Addr), PG (X.blk s H scope (compEnvC scope cl C X.env) fp) tg1 g1) (ht1 : ∀ (s : Shared) (H : Hp) (C : Addr) (cl : List (Str × Addr)) (fp : List Addr), PTs (X.blk s H scope (compEnvC scope cl C X.env) fp) ifs1 tt1)
    (hk : ∀ (s : Shared) (H : Hp) (C : Addr) (cl : List (Str × Addr)) (fp : List Addr), PE (X.blk s H scope (compEnvC scope cl C X.env) fp) kx tk)
    (he : ∀ (s : Shared) (H : Hp) (C : Addr) (cl : List (Str × Addr)) (fp : List Addr), PE (X.blk s H scope (compEnvC scope cl C X.env) fp) vx tv) (hs : ∀ x, foldedSetIterable iter X.env x = pure x := by intro _; rfl) (hs1 : ∀ env x, foldedSetIterable iter1 env x = pure x := by intro _ _; rfl) :
    PS X (.Assign [.Name y py] (.DictComp kx vx [⟨tg, iter, ifs, 0⟩, ⟨tg1, iter1, ifs1, 0⟩] scope pos) spos) (tAsg (tLc2D wi g tt wi1 g1 tt1 tk tv (own.map (·.2)) vs1) (gName i)) := by
  refine ⟨fun pins s σ H D I h => ?_⟩
  rw [exec_Assign_Name_used _ _ _ _ hsw]
  refine wpAny_bind (wpAny_standAt (wpAny_bind ?_))
  show wpAny _ X.A (do let _ ← comprehension (.DictComp kx vx [⟨tg, iter, ifs, 0⟩, ⟨tg1, iter1, ifs1, 0⟩] scope pos) scope X.env (firstIterPos [⟨tg, iter, ifs, 0⟩, ⟨tg1, iter1, ifs1, 0⟩] pos) newDict false (eval iter X.env) (some (assign (.Name y py) X.env))) _ _ s
  have h : tLc2D wi g tt wi1 g1 tt1 tk tv (own.map (·.2)) vs1 σ H (fun x H1 => gName i x σ H1 D.nx) := h
  refine wpAny_bind (thn (lc2_coreD (Qf := fun _ s' => SP X pins D .next s') hc hN I hi ok hv hg ht hk he hs hi1 hg1 ht1 hs1 h fun L C s' m H' I' q hn f => ?_) fun _ s' hq => wpAny_pure (wpAny_pure hq))
  show wpAny _ _ (assign (.Name y py) X.env (.ref L)) _ _ _
  refine wpAny_assign_Name (store_ok2 (v := V.ref L) I' hN hy (.inl hyl) rfl (fun s2 I2 ⟨a, sb, ha⟩ => ?_) (.inr hyl))
  obtain ⟨f0, f1, f2, f3, f4, f5⟩ := f
  have haC : C ≠ a := by
    rcases ha with z | z
    · rw [z]; exact f1
    · exact fun e => f4 y a z e.symm
  refine ⟨m, hn.sameBut sb haC, fun h3 sb3 => ?_⟩
  exact ⟨_, H', I2.turned (t' := s2.toks) (fun b o hb e => (sb3.2 b hb).trans e) f0 f1 f3 f4 f5, q⟩
end
end Od
end
section
set_option Elab.async false
set_option linter.all false
set_option maxRecDepth 100000
set_option maxHeartbeats 2000000
set_option autoImplicit false
/-! comprehensions of two clauses, tables of ints -/
namespace Od
open PySem PySem.Spec PyProof.Rows L2
/-! ### counting -/
theorem nodup_le : ∀ (n : Nat) (l : List Nat), l.Nodup → (∀ x ∈ l, x < n) → l.length ≤ n
  | 0, [], _, _ => Nat.le_refl _
  | 0, x :: l, _, h => absurd (h x List.mem_cons_self) (Nat.not_lt_zero _)
  | n + 1, l, nd, h => by
    have h1 : (l.filter fun x => decide (x ≠ n)).length ≤ n := nodup_le n _ (nd.sublist List.filter_sublist) fun x hx => by
      have := List.mem_filter.mp hx
      have h2 := h x this.1
      have h3 : x ≠ n := of_decide_eq_true this.2
      omega
    have h2 : ∀ l : List Nat, l.Nodup → l.length ≤ (l.filter fun x => decide (x ≠ n)).length + 1 := by
      intro l
      induction l with
      | nil => intro _; exact Nat.zero_le _
      | cons a l ih =>
        intro nd
        have nd' := List.nodup_cons.mp nd
        by_cases c : a = n
        · have e : (l.filter fun x => decide (x ≠ n)) = l := List.filter_eq_self.mpr fun x hx => decide_eq_true fun e => nd'.1 (by rw [c, ← e]; exact hx)
          rw [List.filter_cons, if_neg (by simp [c]), e, List.length_cons]
          exact Nat.le_refl _
        · rw [List.filter_cons, if_pos (by simp [c]), List.length_cons, List.length_cons]
          have := ih nd'.2
          omega
    have := h2 l nd
    omega
theorem nodup_int {l : List Int} {lo : Int} {n : Nat} (nd : l.Nodup) (h : ∀ x ∈ l, lo ≤ x ∧ x < lo + n) : l.length ≤ n := by
  have := nodup_le n (l.map fun x => (x - lo).toNat) ?_ ?_
  · rwa [List.length_map] at this
  · rw [List.nodup_iff_pairwise_ne, List.pairwise_map]
    refine (List.nodup_iff_pairwise_ne.mp nd).imp_of_mem fun {a b} ha hb hab e => hab ?_
    have := h a ha
    have := h b hb
    omega
  · intro x hx
    obtain ⟨y, hy, rfl⟩ := List.mem_map.mp hx
    have := h y hy
    omega
/-! ### tables of ints -/
/-- the dict kvs has int keys; T tells what stands at a key -/
structure Tab (kvs : List (Key × V)) (T : Int → Option V) : Prop where
  val : ∀ k, valV kvs (.inl k) = T k
  ent : ∀ e ∈ kvs, ∃ k, e.1 = .inl k ∧ T k = some e.2
  nd : (kvs.map (·.1)).Nodup
theorem Tab.nil : Tab [] fun _ => none := ⟨fun _ => rfl, fun _ h => (by cases h), List.nodup_nil⟩
theorem Tab.mem {kvs : List (Key × V)} {T : Int → Option V} (t : Tab kvs T) {k : Int} {v : V} (h : T k = some v) : (Sum.inl k, v) ∈ kvs := by
  rw [← t.val] at h
  unfold valV at h
  obtain ⟨e, he, rfl⟩ := Option.map_eq_some_iff.mp h
  have h1 := List.mem_of_find?_eq_some he
  have h2 : e.1 = Sum.inl k := by simpa using List.find?_some he
  obtain ⟨a, b⟩ := e
  simp only at h2
  subst h2
  exact h1
theorem keys_put (kvs : List (Key × V)) (k : Key) (v : V) : (putK kvs k v).map (·.1) = if (valV kvs k).isSome then kvs.map (·.1) else kvs.map (·.1) ++ [k] := by
  unfold putK
  rw [valV_any]
  by_cases c : (valV kvs k).isSome = true
  · rw [if_pos c, if_pos c, List.map_map]
    apply List.map_congr_left
    intro e _
    show (if e.1 = k then (e.1, v) else e).1 = e.1
    split <;> rfl
  · rw [if_neg c, if_neg c, List.map_append]
    rfl
theorem Tab.put {kvs : List (Key × V)} {T : Int → Option V} (t : Tab kvs T) (k : Int) (v : V) : Tab (putK kvs (.inl k) v) fun j => if j = k then some v else T j := by
  refine ⟨fun j => ?_, fun e he => ?_, ?_⟩
  · rw [valV_put, t.val]
    by_cases c : j = k
    · rw [if_pos c, if_pos (by rw [c])]
    · rw [if_neg c, if_neg (fun e => c (Sum.inl.inj e))]
  · unfold putK at he
    split at he
    · obtain ⟨a, ha, rfl⟩ := List.mem_map.mp he
      obtain ⟨j, hj, hT⟩ := t.ent a ha
      by_cases c : a.1 = .inl k
      · rw [if_pos c]
        exact ⟨k, c, by rw [if_pos rfl]⟩
      · rw [if_neg c]
        exact ⟨j, hj, by rw [if_neg (fun e => c (by rw [hj, e]))]; exact hT⟩
    · rename_i hn
      rcases List.mem_append.mp he with ha | ha
      · obtain ⟨j, hj, hT⟩ := t.ent e ha
        refine ⟨j, hj, ?_⟩
        rw [if_neg]
        · exact hT
        · intro c
          apply hn
          rw [List.any_eq_true]
          exact ⟨e, ha, decide_eq_true (by rw [hj, c])⟩
      · rw [List.mem_singleton.mp ha]
        exact ⟨k, rfl, by rw [if_pos rfl]⟩
  · rw [keys_put]
    split
    · exact t.nd
    · rename_i hs
      rw [List.nodup_append]
      refine ⟨t.nd, by simp, fun a ha b hb => ?_⟩
      rw [List.mem_singleton.mp hb]
      intro c
      apply hs
      rw [← valV_any, List.any_eq_true]
      obtain ⟨e, he, rfl⟩ := List.mem_map.mp ha
      exact ⟨e, he, decide_eq_true c⟩
def keyI : Key → Int
  | .inl k => k
  | .inr _ => 0
theorem Tab.len {kvs : List (Key × V)} {T : Int → Option V} (t : Tab kvs T) {lo : Int} {n : Nat} (h : ∀ k v, T k = some v → lo ≤ k ∧ k < lo + n) : kvs.length ≤ n := by
  have e : kvs.map (·.1) = (kvs.map fun e => keyI e.1).map Sum.inl := by
    rw [List.map_map]
    apply List.map_congr_left
    intro e he
    obtain ⟨k, hk, _⟩ := t.ent e he
    show e.1 = Sum.inl (keyI e.1)
    rw [hk]
    rfl
  have nd := t.nd
  rw [e] at nd
  have nd2 : (kvs.map fun e => keyI e.1).Nodup := by
    rw [List.nodup_iff_pairwise_ne, List.pairwise_map] at nd
    rw [List.nodup_iff_pairwise_ne]
    exact nd.imp fun {a b} h c => h (by rw [c])
  have := nodup_int (lo := lo) (n := n) nd2 fun x hx => by
    obtain ⟨a, ha, rfl⟩ := List.mem_map.mp hx
    obtain ⟨k, hk, hT⟩ := t.ent a ha
    rw [hk]
    exact h k _ hT
  rwa [List.length_map] at this
/-! ### two clauses, plain values, no tests -/
/-- what the turns of a walk give, told by a list -/
def Gives (Y : Nat → Hp → V → Hp → Prop) (xs : List V) : Prop := ∀ i H x H', Y i H x H' → H' = H ∧ xs[i]? = some x
theorem gives_at {xs : List V} : Gives (YAt xs) xs := fun _ _ _ _ h => h
theorem gives_vals {kvs : List (Key × V)} : Gives (fun i H x H' => H' = H ∧ ∃ k, kvs[i]? = some (k, x)) (kvs.map (·.2)) := fun i H x H' h => ⟨h.1, by
  obtain ⟨k, e⟩ := h.2
  rw [List.getElem?_map, e]
  rfl⟩
theorem flat_take {α β : Type} (f : α → List β) (xs : List α) (i : Nat) (x : α) (h : xs[i]? = some x) : (xs.take (i + 1)).flatMap f = (xs.take i).flatMap f ++ f x := by
  rw [List.take_add_one, h, List.flatMap_append]
  simp
theorem flat_len {α β : Type} (f : α → List β) (n : Nat) (h : ∀ x, (f x).length ≤ n) : ∀ xs : List α, (xs.flatMap f).length ≤ xs.length * n
  | [] => by simp
  | x :: xs => by
    rw [List.flatMap_cons, List.length_append, List.length_cons, Nat.succ_mul]
    have := flat_len f n h xs
    have := h x
    omega
section
variable {J J1 : It} {G G1 : Hp → Prop} {Y Y1 : Nat → Hp → V → Hp → Prop} {XS YS : List V} {wi1 : TI} {i0 i1 : Nat} {te tk tv : TE} {vs vs1 : List Nat} {σ : L2.St} {H1 : Hp} {D : Addr} {Qd : Hp → Prop}
theorem lc2_pure (w : Walk J XS.length G Y) (hY : Gives Y XS) (w1 : Walk J1 YS.length G1 Y1) (hY1 : Gives Y1 YS) (hD : H1 D = none) (hG : ∀ H, Le H1 H → G H) (hG1 : ∀ H, Le H1 H → G1 H) (hn : XS.length * YS.length ≤ sizeLine) (el : V → V → V)
    (hw : ∀ x, wipe ((wipe σ vs).set i0 (some x)) vs = wipe σ vs) (hw1 : ∀ x y, wipe ((wipe ((wipe σ vs).set i0 (some x)) vs1).set i1 (some y)) vs1 = wipe ((wipe σ vs).set i0 (some x)) vs1)
    (hi : ∀ x H, x ∈ XS → Le H1 H → ∀ R : It → Hp → Prop, R J1 H → wi1 ((wipe σ vs).set i0 (some x)) H R)
    (he : ∀ x y H, x ∈ XS → y ∈ YS → Le H1 H → ∀ N : VK, N (el x y) H → te ((wipe ((wipe σ vs).set i0 (some x)) vs1).set i1 (some y)) H N)
    (hd : ∀ H, Le H1 H → H D = some (.lst (XS.flatMap fun x => YS.map fun y => el x y)) → Qd H) :
    ∃ W : Nat → Nat → Hp → Prop, (∃ m, W 0 m (upd H1 D (.lst []))) ∧ ∀ i m H, W i m H →
  (J.stop i H ∧ Qd H) ∨ (J.go i H ∧ ∃ Nx : Hp → Prop, (∀ H', Nx H' → ∃ m', m' < m ∧ W (i + 1) m' H') ∧ ∀ x H', J.yld i H x H' → gName i0 x (wipe σ vs) H' fun σ2 H2 => wipe σ2 vs = wipe σ vs ∧ tYes σ2 H2 fun b H3 =>
    if b = true then wi1 σ2 H3 fun J1 H4 => ∃ W1 : Nat → Nat → Hp → Prop, (∃ m, W1 0 m H4) ∧ ∀ j k H, W1 j k H →
      (J1.stop j H ∧ Nx H) ∨ (J1.go j H ∧ ∃ Nx1 : Hp → Prop, (∀ H', Nx1 H' → ∃ k', k' < k ∧ W1 (j + 1) k' H') ∧ ∀ x H', J1.yld j H x H' → gName i1 x (wipe σ2 vs1) H' fun σ3 H5 => wipe σ3 vs1 = wipe σ2 vs1 ∧ tYes σ3 H5 fun b H6 =>
        if b = true then te σ3 H6 fun y H7 => ∃ acc, H7 D = some (.lst acc) ∧ acc.length < sizeLine ∧ Nx1 (upd H7 D (.lst (acc ++ [y]))) else Nx1 H6)
    else Nx H3) := by
  have lenT : ∀ i, ((XS.take i).flatMap fun x => YS.map fun y => el x y).length ≤ i * YS.length := fun i => by
    have := flat_len (fun x => YS.map fun y => el x y) YS.length (fun x => by rw [List.length_map]; exact Nat.le_refl _) (XS.take i)
    have h2 : (XS.take i).length ≤ i := by rw [List.length_take]; omega
    exact Nat.le_trans this (Nat.mul_le_mul_right _ h2)
  refine ⟨fun i m H => m = XS.length - i ∧ i ≤ XS.length ∧ Le H1 H ∧ H D = some (.lst ((XS.take i).flatMap fun x => YS.map fun y => el x y)), ⟨_, rfl, Nat.zero_le _, Le.new hD, by rw [upd_self]; simp⟩, ?_⟩
  rintro i m H ⟨rfl, hiX, le, e⟩
  by_cases hlt : i < XS.length
  · refine .inr ⟨w.goes i H hlt (hG H le), fun H' => Le H1 H' ∧ H' D = some (.lst ((XS.take (i + 1)).flatMap fun x => YS.map fun y => el x y)), fun H' p => ⟨XS.length - (i + 1), by omega, rfl, hlt, p⟩, fun x H' y => ?_⟩
    obtain ⟨rfl, hx⟩ := hY i H x H' (w.yields i H x H' hlt (hG H le) y)
    have hxm := List.mem_of_getElem? hx
    refine ⟨hw x, ?_⟩
    show wi1 ((wipe σ vs).set i0 (some x)) H' _
    refine hi x H' hxm le _ ?_
    refine ⟨fun j k H => k = YS.length - j ∧ j ≤ YS.length ∧ Le H1 H ∧ H D = some (.lst (((XS.take i).flatMap fun x => YS.map fun y => el x y) ++ (YS.take j).map fun y => el x y)), ⟨_, rfl, Nat.zero_le _, le, by rw [e]; simp⟩, ?_⟩
    rintro j k H2 ⟨rfl, hjY, le2, e2⟩
    by_cases hlt2 : j < YS.length
    · refine .inr ⟨w1.goes j H2 hlt2 (hG1 H2 le2), fun H' => Le H1 H' ∧ H' D = some (.lst (((XS.take i).flatMap fun x => YS.map fun y => el x y) ++ (YS.take (j + 1)).map fun y => el x y)), fun H' p => ⟨YS.length - (j + 1), by omega, rfl, hlt2, p⟩, fun z H3 y3 => ?_⟩
      obtain ⟨rfl, hz⟩ := hY1 j H2 z H3 (w1.yields j H2 z H3 hlt2 (hG1 H2 le2) y3)
      refine ⟨hw1 x z, ?_⟩
      show te _ H3 _
      refine he x z H3 hxm (List.mem_of_getElem? hz) le2 _ ?_
      refine ⟨_, e2, ?_, le2.upd hD, ?_⟩
      · rw [List.length_append, List.length_map, List.length_take]
        have h1 := lenT i
        have h2 : i * YS.length + YS.length ≤ XS.length * YS.length := by
          rw [← Nat.succ_mul]
          exact Nat.mul_le_mul_right _ hlt
        omega
      · rw [upd_self, List.append_assoc, List.take_add_one, hz, List.map_append]
        rfl
    · have ej : j = YS.length := by omega
      subst ej
      refine .inl ⟨w1.stops H2 (hG1 H2 le2), le2, ?_⟩
      rw [e2, List.take_of_length_le (Nat.le_refl _), flat_take _ _ _ _ hx]
  · have ei : i = XS.length := by omega
    subst ei
    refine .inl ⟨w.stops H (hG H le), hd H le ?_⟩
    rw [e, List.take_of_length_le (Nat.le_refl _)]
/-- .. a dict: the keys' table -/
theorem dc2_pure (w : Walk J XS.length G Y) (hY : Gives Y XS) (w1 : Walk J1 YS.length G1 Y1) (hY1 : Gives Y1 YS) (hD : H1 D = none) (hG : ∀ H, Le H1 H → G H) (hG1 : ∀ H, Le H1 H → G1 H) (el : V → V → Int) (u : V) (lo : Int) (n : Nat) (hn : n < sizeLine) (hb : ∀ x ∈ XS, ∀ y ∈ YS, lo ≤ el x y ∧ el x y < lo + n)
    (hw : ∀ x, wipe ((wipe σ vs).set i0 (some x)) vs = wipe σ vs) (hw1 : ∀ x y, wipe ((wipe ((wipe σ vs).set i0 (some x)) vs1).set i1 (some y)) vs1 = wipe ((wipe σ vs).set i0 (some x)) vs1)
    (hi : ∀ x H, x ∈ XS → Le H1 H → ∀ R : It → Hp → Prop, R J1 H → wi1 ((wipe σ vs).set i0 (some x)) H R)
    (he : ∀ x y H, x ∈ XS → y ∈ YS → Le H1 H → ∀ N : VK, N (.int (el x y)) H → tk ((wipe ((wipe σ vs).set i0 (some x)) vs1).set i1 (some y)) H N)
    (hv : ∀ x y H, x ∈ XS → y ∈ YS → Le H1 H → ∀ N : VK, N u H → tv ((wipe ((wipe σ vs).set i0 (some x)) vs1).set i1 (some y)) H N)
    (hd : ∀ H kvs T, Le H1 H → H D = some (.dK kvs) → Tab kvs T → (∀ k v, T k = some v ↔ v = u ∧ ∃ x ∈ XS, ∃ y ∈ YS, k = el x y) → Qd H) :
    ∃ W : Nat → Nat → Hp → Prop, (∃ m, W 0 m (upd H1 D (.dK []))) ∧ ∀ i m H, W i m H →
  (J.stop i H ∧ Qd H) ∨ (J.go i H ∧ ∃ Nx : Hp → Prop, (∀ H', Nx H' → ∃ m', m' < m ∧ W (i + 1) m' H') ∧ ∀ x H', J.yld i H x H' → gName i0 x (wipe σ vs) H' fun σ2 H2 => wipe σ2 vs = wipe σ vs ∧ tYes σ2 H2 fun b H3 =>
    if b = true then wi1 σ2 H3 fun J1 H4 => ∃ W1 : Nat → Nat → Hp → Prop, (∃ m, W1 0 m H4) ∧ ∀ j k H, W1 j k H →
      (J1.stop j H ∧ Nx H) ∨ (J1.go j H ∧ ∃ Nx1 : Hp → Prop, (∀ H', Nx1 H' → ∃ k', k' < k ∧ W1 (j + 1) k' H') ∧ ∀ x H', J1.yld j H x H' → gName i1 x (wipe σ2 vs1) H' fun σ3 H5 => wipe σ3 vs1 = wipe σ2 vs1 ∧ tYes σ3 H5 fun b H6 =>
        if b = true then tk σ3 H6 fun y H7 => tv σ3 H7 fun z H8 => ∃ kvs k, y = kV k ∧ H8 D = some (.dK kvs) ∧ kvs.length < sizeLine ∧ Nx1 (upd H8 D (.dK (putK kvs k z))) else Nx1 H6)
    else Nx H3) := by
  refine ⟨fun i m H => m = XS.length - i ∧ i ≤ XS.length ∧ Le H1 H ∧ ∃ kvs T, H D = some (.dK kvs) ∧ Tab kvs T ∧ ∀ k v, T k = some v ↔ v = u ∧ ∃ x ∈ XS.take i, ∃ y ∈ YS, k = el x y, ⟨_, rfl, Nat.zero_le _, Le.new hD, [], _, upd_self, .nil, fun k v => ⟨fun h => (by cases h), fun ⟨_, x, hx, _⟩ => (by simp at hx)⟩⟩, ?_⟩
  rintro i m H ⟨rfl, hiX, le, kvs, T, e, tb, ht⟩
  by_cases hlt : i < XS.length
  · refine .inr ⟨w.goes i H hlt (hG H le), fun H' => Le H1 H' ∧ ∃ kvs T, H' D = some (.dK kvs) ∧ Tab kvs T ∧ ∀ k v, T k = some v ↔ v = u ∧ ∃ x ∈ XS.take (i + 1), ∃ y ∈ YS, k = el x y, fun H' p => ⟨XS.length - (i + 1), by omega, rfl, hlt, p⟩, fun x H' y => ?_⟩
    obtain ⟨rfl, hx⟩ := hY i H x H' (w.yields i H x H' hlt (hG H le) y)
    have hxm := List.mem_of_getElem? hx
    have htk : ∀ z, z ∈ XS.take (i + 1) ↔ z ∈ XS.take i ∨ z = x := fun z => by
      rw [List.take_add_one, hx, List.mem_append]
      simp
    refine ⟨hw x, ?_⟩
    show wi1 ((wipe σ vs).set i0 (some x)) H' _
    refine hi x H' hxm le _ ?_
    refine ⟨fun j k H => k = YS.length - j ∧ j ≤ YS.length ∧ Le H1 H ∧ ∃ kvs T, H D = some (.dK kvs) ∧ Tab kvs T ∧ ∀ k v, T k = some v ↔ v = u ∧ ((∃ x ∈ XS.take i, ∃ y ∈ YS, k = el x y) ∨ ∃ y ∈ YS.take j, k = el x y), ⟨_, rfl, Nat.zero_le _, le, kvs, T, e, tb, fun k v => by rw [ht]; simp⟩, ?_⟩
    rintro j k H2 ⟨rfl, hjY, le2, kvs2, T2, e2, tb2, ht2⟩
    by_cases hlt2 : j < YS.length
    · refine .inr ⟨w1.goes j H2 hlt2 (hG1 H2 le2), fun H' => Le H1 H' ∧ ∃ kvs T, H' D = some (.dK kvs) ∧ Tab kvs T ∧ ∀ k v, T k = some v ↔ v = u ∧ ((∃ x ∈ XS.take i, ∃ y ∈ YS, k = el x y) ∨ ∃ y ∈ YS.take (j + 1), k = el x y), fun H' p => ⟨YS.length - (j + 1), by omega, rfl, hlt2, p⟩, fun z H3 y3 => ?_⟩
      obtain ⟨rfl, hz⟩ := hY1 j H2 z H3 (w1.yields j H2 z H3 hlt2 (hG1 H2 le2) y3)
      have hzm := List.mem_of_getElem? hz
      refine ⟨hw1 x z, ?_⟩
      show tk _ H3 _
      refine he x z H3 hxm hzm le2 _ ?_
      refine hv x z H3 hxm hzm le2 _ ?_
      refine ⟨kvs2, .inl (el x z), rfl, e2, ?_, le2.upd hD, _, _, upd_self, tb2.put _ _, fun k v => ?_⟩
      · refine Nat.lt_of_le_of_lt (tb2.len (lo := lo) (n := n) fun k v hk => ?_) hn
        rcases ((ht2 k v).mp hk).2 with ⟨a, ha, b, hb2, rfl⟩ | ⟨b, hb2, rfl⟩
        · exact hb a (List.mem_of_mem_take ha) b hb2
        · exact hb x hxm b (List.mem_of_mem_take hb2)
      · have h3 : ∀ q, q ∈ YS.take (j + 1) ↔ q ∈ YS.take j ∨ q = z := fun q => by
          rw [List.take_add_one, hz, List.mem_append]
          simp
        by_cases c : k = el x z
        · rw [if_pos c]
          constructor
          · intro h
            exact ⟨(Option.some.inj h).symm, .inr ⟨z, (h3 z).mpr (.inr rfl), c⟩⟩
          · intro h
            rw [h.1]
        · rw [if_neg c, ht2]
          constructor
          · rintro ⟨h1, h2 | ⟨q, hq, h2⟩⟩
            · exact ⟨h1, .inl h2⟩
            · exact ⟨h1, .inr ⟨q, (h3 q).mpr (.inl hq), h2⟩⟩
          · rintro ⟨h1, h2 | ⟨q, hq, h2⟩⟩
            · exact ⟨h1, .inl h2⟩
            · rcases (h3 q).mp hq with h | rfl
              · exact ⟨h1, .inr ⟨q, h, h2⟩⟩
              · exact absurd h2 c
    · have ej : j = YS.length := by omega
      subst ej
      refine .inl ⟨w1.stops H2 (hG1 H2 le2), le2, kvs2, T2, e2, tb2, fun k v => ?_⟩
      rw [ht2, List.take_of_length_le (Nat.le_refl _)]
      constructor
      · rintro ⟨h1, ⟨a, ha, b, hb2, h⟩ | ⟨b, hb2, h⟩⟩
        · exact ⟨h1, a, (htk a).mpr (.inl ha), b, hb2, h⟩
        · exact ⟨h1, x, (htk x).mpr (.inr rfl), b, hb2, h⟩
      · rintro ⟨h1, a, ha, b, hb2, h⟩
        rcases (htk a).mp ha with ha | rfl
        · exact ⟨h1, .inl ⟨a, ha, b, hb2, h⟩⟩
        · exact ⟨h1, .inr ⟨b, hb2, h⟩⟩
  · have ei : i = XS.length := by omega
    subst ei
    refine .inl ⟨w.stops H (hG H le), hd H kvs T le e tb fun k v => ?_⟩
    rw [ht, List.take_of_length_le (Nat.le_refl _)]
/-- one clause, a dict: the keys' table -/
theorem dc_pure (w : Walk J XS.length G Y) (hY : Gives Y XS) (hD : H1 D = none) (hG : ∀ H, Le H1 H → G H) (kf : V → Int) (vf : V → V) (lo : Int) (n : Nat) (hn : n < sizeLine) (hb : ∀ x ∈ XS, lo ≤ kf x ∧ kf x < lo + n)
    (hw : ∀ x, wipe ((wipe σ vs).set i0 (some x)) vs = wipe σ vs)
    (he : ∀ x H, x ∈ XS → Le H1 H → ∀ N : VK, N (.int (kf x)) H → tk ((wipe σ vs).set i0 (some x)) H N)
    (hv : ∀ x H, x ∈ XS → Le H1 H → ∀ N : VK, N (vf x) H → tv ((wipe σ vs).set i0 (some x)) H N)
    (hd : ∀ H kvs T, Le H1 H → H D = some (.dK kvs) → Tab kvs T → (∀ k v, T k = some v → ∃ x ∈ XS, k = kf x ∧ v = vf x) → (∀ x ∈ XS, (T (kf x)).isSome = true) → Qd H) :
    ∃ W : Nat → Nat → Hp → Prop, (∃ m, W 0 m (upd H1 D (.dK []))) ∧ ∀ i m H, W i m H →
  (J.stop i H ∧ Qd H) ∨ (J.go i H ∧ ∃ Nx : Hp → Prop, (∀ H', Nx H' → ∃ m', m' < m ∧ W (i + 1) m' H') ∧ ∀ x H', J.yld i H x H' → gName i0 x (wipe σ vs) H' fun σ2 H2 => wipe σ2 vs = wipe σ vs ∧ tYes σ2 H2 fun b H3 =>
    if b = true then tk σ2 H3 fun y H4 => tv σ2 H4 fun z H5 => ∃ kvs k, y = kV k ∧ H5 D = some (.dK kvs) ∧ kvs.length < sizeLine ∧ Nx (upd H5 D (.dK (putK kvs k z))) else Nx H3) := by
  refine ⟨fun i m H => m = XS.length - i ∧ i ≤ XS.length ∧ Le H1 H ∧ ∃ kvs T, H D = some (.dK kvs) ∧ Tab kvs T ∧ (∀ k v, T k = some v → ∃ x ∈ XS.take i, k = kf x ∧ v = vf x) ∧ (∀ x ∈ XS.take i, (T (kf x)).isSome = true), ⟨_, rfl, Nat.zero_le _, Le.new hD, [], _, upd_self, .nil, fun k v h => (by cases h), fun x hx => (by simp at hx)⟩, ?_⟩
  rintro i m H ⟨rfl, hiX, le, kvs, T, e, tb, h1, h2⟩
  by_cases hlt : i < XS.length
  · refine .inr ⟨w.goes i H hlt (hG H le), fun H' => Le H1 H' ∧ ∃ kvs T, H' D = some (.dK kvs) ∧ Tab kvs T ∧ (∀ k v, T k = some v → ∃ x ∈ XS.take (i + 1), k = kf x ∧ v = vf x) ∧ (∀ x ∈ XS.take (i + 1), (T (kf x)).isSome = true), fun H' p => ⟨XS.length - (i + 1), by omega, rfl, hlt, p⟩, fun x H' y => ?_⟩
    obtain ⟨rfl, hx⟩ := hY i H x H' (w.yields i H x H' hlt (hG H le) y)
    have hxm := List.mem_of_getElem? hx
    have htk : ∀ z, z ∈ XS.take (i + 1) ↔ z ∈ XS.take i ∨ z = x := fun z => by
      rw [List.take_add_one, hx, List.mem_append]
      simp
    refine ⟨hw x, ?_⟩
    show tk ((wipe σ vs).set i0 (some x)) H' _
    refine he x H' hxm le _ ?_
    refine hv x H' hxm le _ ?_
    refine ⟨kvs, .inl (kf x), rfl, e, ?_, le.upd hD, _, _, upd_self, tb.put _ _, fun k v hk => ?_, fun z hz => ?_⟩
    · refine Nat.lt_of_le_of_lt (tb.len (lo := lo) (n := n) fun k v hk => ?_) hn
      obtain ⟨a, ha, rfl, _⟩ := h1 k v hk
      exact hb a (List.mem_of_mem_take ha)
    · by_cases c : k = kf x
      · rw [if_pos c] at hk
        exact ⟨x, (htk x).mpr (.inr rfl), c, (Option.some.inj hk).symm⟩
      · rw [if_neg c] at hk
        obtain ⟨a, ha, h3⟩ := h1 k v hk
        exact ⟨a, (htk a).mpr (.inl ha), h3⟩
    · by_cases c : kf z = kf x
      · rw [if_pos c]; rfl
      · rw [if_neg c]
        rcases (htk z).mp hz with h | rfl
        · exact h2 z h
        · exact absurd rfl c
  · have ei : i = XS.length := by omega
    subst ei
    rw [List.take_of_length_le (Nat.le_refl _)] at h1 h2
    exact .inl ⟨w.stops H (hG H le), hd H kvs T le e tb h1 h2⟩
end
end Od
end
section
set_option Elab.async false
set_option linter.all false
set_option maxRecDepth 100000
set_option maxHeartbeats 2000000
set_option autoImplicit false
/-! rules said over a written part of one's own; sorted of any number of texts -/
namespace Od
open PySem PySem.Spec PyProof.Rows L2
section
variable {X : Cx} {K : PySem.W.Frag}
theorem opR_K {f : Value → Value → Sem Value} {r : PySem.W.Frag → R2} (hK : X.K = K) (h : OpR X f (r X.K)) : OpR X f (r K) := by subst hK; exact h
theorem callR_K {v : Value} {r : PySem.W.Frag → List V → Hp → VK → Prop} (hK : X.K = K) (h : CallR X v (r X.K)) : CallR X v (r K) := by subst hK; exact h
theorem ixR_K {r : PySem.W.Frag → R2} (hK : X.K = K) (h : IxR X (r X.K)) : IxR X (r K) := by subst hK; exact h
theorem slR_K {r : PySem.W.Frag → V → Option Int → Option Int → Hp → VK → Prop} (hK : X.K = K) (h : SlR X (r X.K)) : SlR X (r K) := by subst hK; exact h
theorem pa_starK {e : Expr} {p : Pos} {es : List Expr} {te : TE} {t : TA} (hK : X.K = K) (he : PE X e te) (hr : PA X es t) (hs : starEach (.Starred e p :: es) X.env = (true, eval e X.env) :: starEach es X.env := by rfl) : PA X (.Starred e p :: es) (StX.tStar K te t) := by
  subst hK
  exact StX.pa_star he hr hs
def rLenK (K : PySem.W.Frag) : List V → Hp → VK → Prop := fun xs H Q => ∃ p ys, xs = [.ref p] ∧ (SqL K H p ys ∨ SqT K H p ys) ∧ Q (.int ys.length) H
theorem call_lenK (hK : X.K = K) : CallR X (.builtin "len") (rLenK K) := by subst hK; exact call_len_seq
def rListK (K : PySem.W.Frag) : List V → Hp → VK → Prop := fun xs H Q => ∃ p ys, xs = [.ref p] ∧ (SqL K H p ys ∨ SqT K H p ys) ∧ ∀ l, H l = none → Q (.ref l) (upd H l (.lst ys))
theorem call_listK (hK : X.K = K) : CallR X (.type "list") (rListK K) := by subst hK; exact call_list_of
/-- sorted(xs), texts, any number of them -/
def rSortedSA (K : PySem.W.Frag) : List V → Hp → VK → Prop := fun vs H Q => ∃ (a : Addr) (xs : List Str), vs = [V.ref a] ∧ SqL K H a (xs.map V.str) ∧
  ∀ (ys : List Str) (p : Addr), ys.Perm xs → sortedS ys = true → H p = none → Q (.ref p) (upd H p (.lst (ys.map V.str)))
theorem cr_sortedSA : CallR X (.builtin "sorted") (rSortedSA X.K) := by
  intro pins s σ H vs us Q I r h
  obtain ⟨a, xs, rfl, hs, q⟩ := h
  obtain ⟨its, rv, hl, hz⟩ := I.list hs
  rw [Vals.ref1 r]
  have hlen0 := rv.length
  rw [List.length_map] at hlen0 hz
  refine PyProof.Rows.sorted_strsAny hl.isList rv.strs (by rw [← hlen0]; exact hz) fun out ys h1 h2 h3 => ?_
  obtain ⟨ep, he'⟩ := PyProof.Rows.sortedAll_at s.heap its out
  have hlen : (ys.map V.str).length ≤ sizeLine := by rw [List.length_map, h2.length_eq]; exact hz
  exact ⟨.ref _, upd H (s.heap.objs.size + 1) (.lst (ys.map V.str)), I.laid (t' := s.toks) (fun _ _ => PyProof.Rows.sortedAll_old) (Nat.le_succ _) ⟨hlen, out.toList, ep, vals_of_strs h1, he'⟩, rfl, q ys _ h2 h3 (I.hok.fresh (Nat.le_succ _))⟩
end
theorem fm_bind {α β : Type} (xs : List α) (f : α → Option β) : (List.range xs.length).filterMap (fun i => (xs[i]?).bind f) = xs.filterMap f := by
  induction xs with
  | nil => rfl
  | cons x xs ih =>
    rw [List.length_cons, List.range_succ_eq_map, List.filterMap_cons]
    have e : (List.map Nat.succ (List.range xs.length)).filterMap (fun i => ((x :: xs)[i]?).bind f) = xs.filterMap f := by
      rw [List.filterMap_map, ← ih]
      rfl
    rw [e, List.filterMap_cons]
    rfl
/-- a comprehension over a walk that gives the items of XS: f x is kept (none: not) -/
theorem lc_fm {J : It} {G : Hp → Prop} {Y : Nat → Hp → V → Hp → Prop} {XS : List V} {n : Nat} (w : Walk J n G Y) (hY : Gives Y XS) {g : TG} {tt : TT} {te : TE} {vs : List Nat} {σ : L2.St} {H1 : Hp} {D : Addr} {Qd : Hp → Prop} (hD : H1 D = none) (hn : XS.length ≤ 16777216)
    (hG : ∀ H, Le H1 H → G H) (f : V → Option V)
    (hs : ∀ x H, x ∈ XS → Le H1 H → ∀ N : Option V → Hp → Prop, (∀ H2, Le H H2 → N (f x) H2) → g x (wipe σ vs) H fun σ2 H2 => wipe σ2 vs = wipe σ vs ∧ tt σ2 H2 fun b H3 => if b = true then te σ2 H3 fun y H4 => N (some y) H4 else N none H3)
    (hd : ∀ H, Le H1 H → H D = some (.lst (XS.filterMap f)) → Qd H) (en : n = XS.length := by first | rfl | simp) :
    ∃ W : Nat → Nat → Hp → Prop, (∃ m, W 0 m (upd H1 D (.lst []))) ∧ ∀ i m H, W i m H →
      (J.stop i H ∧ Qd H) ∨ (J.go i H ∧ ∃ Nx : Hp → Prop, (∀ H', Nx H' → ∃ m', m' < m ∧ W (i + 1) m' H') ∧ ∀ x H', J.yld i H x H' → g x (wipe σ vs) H' fun σ2 H2 => wipe σ2 vs = wipe σ vs ∧ tt σ2 H2 fun b H3 =>
        if b = true then te σ2 H3 fun y H4 => ∃ acc, H4 D = some (.lst acc) ∧ acc.length < sizeLine ∧ Nx (upd H4 D (.lst (acc ++ [y]))) else Nx H3) := by
  subst en
  refine lc_pure w hD (le_szl _ hn) hG (fun i H x H' h => by rw [(hY i H x H' h).1]; exact .refl) (fun i => (XS[i]?).bind f) ?_ ?_
  · intro i x H H' hi le y N hN
    obtain ⟨rfl, hx⟩ := hY i H x H' y
    refine hs x H' (List.mem_of_getElem? hx) le N fun H2 l => ?_
    have := hN H2 l
    rw [hx] at this
    exact this
  · intro H le e
    rw [fm_bind] at e
    exact hd H le e
theorem fm_map {α : Type} (xs : List α) (f : V → Option V) (g : α → V) (h : α → V) (e : ∀ x ∈ xs, f (g x) = some (h x)) : (xs.map g).filterMap f = xs.map h := by
  induction xs with
  | nil => rfl
  | cons x xs ih =>
    rw [List.map_cons, List.filterMap_cons, e x List.mem_cons_self, List.map_cons, ih fun y hy => e y (List.mem_cons_of_mem _ hy)]
theorem fm_filter {α : Type} (xs : List α) (f : V → Option V) (g : α → V) (p : α → Bool) (e : ∀ x ∈ xs, f (g x) = if p x then some (g x) else none) : (xs.map g).filterMap f = (xs.filter p).map g := by
  induction xs with
  | nil => rfl
  | cons x xs ih =>
    have h := e x List.mem_cons_self
    rw [List.map_cons, List.filterMap_cons, h, List.filter_cons]
    cases p x with
    | true => simp only [if_true, List.map_cons]; rw [ih fun y hy => e y (List.mem_cons_of_mem _ hy)]
    | false => simp only [Bool.false_eq_true, if_false]; exact ih fun y hy => e y (List.mem_cons_of_mem _ hy)
section
variable {X : Cx} {k j : Nat} {x : Str} {sp : Sp} {dvs : List V} {p pos : Pos}
/-- f(), a def of the module -/
theorem pe_c0 (c : C8.Cal X.prog X.w X.K X.mg X.base k x sp dvs) (hr : Room j X.A) (hk : k ≤ j) (hg : Gl X x) (hdb : (x == ("__debug__" : Str)) = false := by decide) : PE X (.Call (.Name x p) [] [] pos) (tCall sp dvs C8.E0 tNil) := by
  obtain ⟨f, fd, ps, ds, F, hm, kp, b, d⟩ := c.ex
  exact pe_call0 F (hr.mono hk) hg hm kp b d C8.pass0 hdb
end
theorem pg_tupK {X : Cx} {K : PySem.W.Frag} {es : List Expr} {k : Nat} {pos : Pos} {t : TGs} {n : Nat} (hK : X.K = K) (hc : X.calm = true) (h : PGs X es t)
    (hn : (assignEach es X.env).length = n := by rfl) (hst : (assignEach es X.env).findIdx? (·.1) = none := by rfl) : PG X (.Tuple es k pos) (gTup K n t) := by
  subst hK
  exact pg_tup hc h hn hst
theorem fm_zip {α β : Type} (B : List α) : ∀ (f : α → Nat → β), (List.range B.length).filterMap (fun i => (B[i]?).map fun c => f c i) = B.zipIdx.map fun p => f p.1 p.2 := by
  induction B with
  | nil => exact fun _ => rfl
  | cons x B ih =>
    intro f
    have h := ih fun c i => f c (i + 1)
    rw [List.length_cons, List.range_succ_eq_map, List.filterMap_cons, List.filterMap_map, List.zipIdx_cons, List.map_cons]
    show f x 0 :: _ = _
    congr 1
    refine Eq.trans ?_ (h.trans ?_)
    · rfl
    · rw [List.zipIdx_succ, List.map_map]
      rfl
end Od
end
section
set_option Elab.async false
set_option linter.all false
set_option autoImplicit false
/-! least lists that have one of each: plain -/
namespace Los
section
variable {α : Type} {lt : α → α → Prop}
def Sub (a b : List α) : Prop := ∀ x ∈ a, x ∈ b
theorem Sub.refl (a : List α) : Sub a a := fun _ h => h
theorem Sub.tr {a b c : List α} (h : Sub a b) (k : Sub b c) : Sub a c := fun x hx => k x (h x hx)
structure SO (lt : α → α → Prop) : Prop where
  irr : ∀ a, ¬ lt a a
  tr : ∀ a b c, lt a b → lt b c → lt a c
theorem ext (o : SO lt) : ∀ {a b : List α}, a.Pairwise lt → b.Pairwise lt → (∀ x, x ∈ a ↔ x ∈ b) → a = b
  | [], [], _, _, _ => rfl
  | [], y :: b, _, _, h => absurd ((h y).mpr List.mem_cons_self) (by simp)
  | x :: a, [], _, _, h => absurd ((h x).mp List.mem_cons_self) (by simp)
  | x :: a, y :: b, pa, pb, h => by
    have pa' := List.pairwise_cons.mp pa
    have pb' := List.pairwise_cons.mp pb
    have e : x = y := by
      rcases List.mem_cons.mp ((h x).mp List.mem_cons_self) with e | e
      · exact e
      rcases List.mem_cons.mp ((h y).mpr List.mem_cons_self) with f | f
      · exact f.symm
      exact absurd (o.tr _ _ _ (pa'.1 y f) (pb'.1 x e)) (o.irr x)
    subst e
    rw [ext o pa'.2 pb'.2 fun z => ?_]
    constructor
    · intro hz
      rcases List.mem_cons.mp ((h z).mp (List.mem_cons_of_mem _ hz)) with e | e
      · subst e; exact absurd (pa'.1 z hz) (o.irr z)
      · exact e
    · intro hz
      rcases List.mem_cons.mp ((h z).mpr (List.mem_cons_of_mem _ hz)) with e | e
      · subst e; exact absurd (pb'.1 z hz) (o.irr z)
      · exact e
theorem SO.nodup (o : SO lt) {a : List α} (h : a.Pairwise lt) : a.Nodup := List.nodup_iff_pairwise_ne.mpr (h.imp (S := fun a b => a ≠ b) fun {x y} l e => by rw [← e] at l; exact o.irr x l)
end
section
variable {α : Type} [DecidableEq α] {lt : α → α → Prop}
theorem sub_len : ∀ {a b : List α}, a.Nodup → Sub a b → a.length ≤ b.length
  | [], b, _, _ => Nat.zero_le _
  | x :: a, b, nd, h => by
    have nd' := List.nodup_cons.mp nd
    have hx := h x List.mem_cons_self
    have := sub_len (a := a) (b := b.erase x) nd'.2 fun y hy => (List.mem_erase_of_ne (fun e => nd'.1 (by rw [← e]; exact hy))).mpr (h y (List.mem_cons_of_mem _ hy))
    rw [List.length_erase_of_mem hx] at this
    have := List.length_pos_of_mem hx
    rw [List.length_cons]
    omega
theorem sub_eq (o : SO lt) {a b : List α} (pa : a.Pairwise lt) (pb : b.Pairwise lt) (h : Sub a b) (l : b.length ≤ a.length) : a = b := by
  refine ext o pa pb fun x => ⟨h x, fun hx => ?_⟩
  refine Classical.byContradiction fun c => ?_
  have := sub_len (a := x :: a) (b := b) (List.nodup_cons.mpr ⟨c, o.nodup pa⟩) fun y hy => by
    rcases List.mem_cons.mp hy with e | e
    · subst e; exact hx
    · exact h y e
  rw [List.length_cons] at this
  omega
theorem sub_lt (o : SO lt) {a b : List α} (pa : a.Pairwise lt) (pb : b.Pairwise lt) (h : Sub a b) (ne : a ≠ b) : a.length < b.length :=
  Nat.lt_of_not_le fun l => ne (sub_eq o pa pb h l)
/-! ### the least ones of a list of rows -/
/-- y is of R, and no other one of R is a part of it -/
def Lst (R : List (List α)) (y : List α) : Prop := y ∈ R ∧ ∀ z ∈ R, Sub z y → z = y
theorem lst_ex (o : SO lt) {R : List (List α)} (hR : ∀ r ∈ R, r.Pairwise lt) : ∀ (n : Nat) (z : List α), z.length ≤ n → z ∈ R → ∃ b, Lst R b ∧ Sub b z := by
  intro n
  induction n with
  | zero =>
    intro z hz hm
    refine ⟨z, ⟨hm, fun w hw hs => ?_⟩, Sub.refl z⟩
    refine sub_eq o (hR w hw) (hR z hm) hs (by omega)
  | succ n ih =>
    intro z hz hm
    by_cases c : ∀ w ∈ R, Sub w z → w = z
    · exact ⟨z, ⟨hm, c⟩, Sub.refl z⟩
    · obtain ⟨w, h1⟩ := Classical.not_forall.mp c
      obtain ⟨hw, h2⟩ := Classical.not_imp.mp h1
      obtain ⟨hs, hne⟩ := Classical.not_imp.mp h2
      have := sub_lt o (hR w hw) (hR z hm) hs hne
      obtain ⟨b, hb, hs2⟩ := ih w (by omega) hw
      exact ⟨b, hb, hs2.tr hs⟩
def keep1 (acc : List (List α)) (r : List α) : List (List α) := if acc.any (fun b => b.all fun x => decide (x ∈ r)) then acc else acc ++ [r]
theorem keep1_iff (acc : List (List α)) (r : List α) : (acc.any (fun b => b.all fun x => decide (x ∈ r))) = true ↔ ∃ b ∈ acc, Sub b r := by
  rw [List.any_eq_true]
  constructor
  · rintro ⟨b, hb, h⟩
    exact ⟨b, hb, fun x hx => of_decide_eq_true (List.all_eq_true.mp h x hx)⟩
  · rintro ⟨b, hb, h⟩
    exact ⟨b, hb, List.all_eq_true.mpr fun x hx => decide_eq_true (h x hx)⟩
def keep (R : List (List α)) : List (List α) := R.foldl keep1 []
theorem keep_snoc (P : List (List α)) (r : List α) : keep (P ++ [r]) = keep1 (keep P) r := by
  unfold keep
  rw [List.foldl_append]
  rfl
/-- rows in an order in which a part never comes behind -/
structure Good (lt : α → α → Prop) (R : List (List α)) : Prop where
  asc : ∀ r ∈ R, r.Pairwise lt
  ord : R.Pairwise fun a b => ¬ Sub b a
theorem Good.init {P : List (List α)} {r : List α} (g : Good lt (P ++ [r])) : Good lt P ∧ r.Pairwise lt ∧ ∀ y ∈ P, ¬ Sub r y := by
  have := List.pairwise_append.mp g.ord
  exact ⟨⟨fun x hx => g.asc x (List.mem_append_left _ hx), this.1⟩, g.asc r (by simp), fun y hy => this.2.2 y hy r (by simp)⟩
theorem keep_main (o : SO lt) : ∀ (n : Nat) (R : List (List α)), R.length = n → Good lt R → (keep R).Sublist R ∧ ∀ y, y ∈ keep R ↔ Lst R y := by
  intro n
  induction n with
  | zero =>
    intro R hl g
    have : R = [] := List.length_eq_zero_iff.mp hl
    subst this
    exact ⟨List.Sublist.refl _, fun y => ⟨fun h => (by simp [keep] at h), fun h => absurd h.1 (by simp)⟩⟩
  | succ n ih =>
    intro R hl g
    have hne : R ≠ [] := fun e => by subst e; simp at hl
    obtain ⟨P, r, rfl⟩ : ∃ P r, R = P ++ [r] := ⟨R.dropLast, R.getLast hne, (List.dropLast_concat_getLast hne).symm⟩
    obtain ⟨gP, ar, nr⟩ := g.init
    obtain ⟨sP, mP⟩ := ih P (by simp at hl; omega) gP
    have rP : r ∉ P := fun h => nr r h (Sub.refl r)
    rw [keep_snoc]
    unfold keep1
    by_cases c : ((keep P).any fun b => b.all fun x => decide (x ∈ r)) = true
    · rw [if_pos c]
      obtain ⟨b, hb, hs⟩ := (keep1_iff _ _).mp c
      have hbP := (mP b).mp hb
      refine ⟨sP.trans (List.sublist_append_left _ _), fun y => (mP y).trans ⟨fun h => ⟨List.mem_append_left _ h.1, fun z hz hzs => ?_⟩, fun h => ?_⟩⟩
      · rcases List.mem_append.mp hz with e | e
        · exact h.2 z e hzs
        · rw [List.mem_singleton.mp e] at hzs
          exact absurd hzs (nr y h.1)
      · rcases List.mem_append.mp h.1 with e | e
        · exact ⟨e, fun z hz => h.2 z (List.mem_append_left _ hz)⟩
        · rw [List.mem_singleton.mp e] at h
          have := h.2 b (List.mem_append_left _ hbP.1) hs
          exact absurd (this ▸ hbP.1) rP
    · rw [if_neg c]
      refine ⟨sP.append (List.Sublist.refl _), fun y => ?_⟩
      rw [List.mem_append, mP]
      constructor
      · rintro (h | h)
        · refine ⟨List.mem_append_left _ h.1, fun z hz hzs => ?_⟩
          rcases List.mem_append.mp hz with e | e
          · exact h.2 z e hzs
          · rw [List.mem_singleton.mp e] at hzs
            exact absurd hzs (nr y h.1)
        · have e := List.mem_singleton.mp h
          subst e
          refine ⟨by simp, fun z hz hzs => ?_⟩
          rcases List.mem_append.mp hz with e | e
          · obtain ⟨b, hb, hs⟩ := lst_ex o gP.asc _ z (Nat.le_refl _) e
            exact absurd ((keep1_iff _ _).mpr ⟨b, (mP b).mpr hb, hs.tr hzs⟩) c
          · exact List.mem_singleton.mp e
      · intro h
        rcases List.mem_append.mp h.1 with e | e
        · exact .inl ⟨e, fun z hz => h.2 z (List.mem_append_left _ hz)⟩
        · exact .inr e
theorem keep_iff (o : SO lt) {R : List (List α)} (g : Good lt R) (y : List α) : y ∈ keep R ↔ Lst R y := (keep_main o _ R rfl g).2 y
theorem keep_sub (o : SO lt) {R : List (List α)} (g : Good lt R) : (keep R).Sublist R := (keep_main o _ R rfl g).1
/-! ### hits -/
def Meets (c r : List α) : Prop := ∃ n ∈ c, n ∈ r
def Hit (cs : List (List α)) (r : List α) : Prop := ∀ c ∈ cs, Meets c r
def MinH (lt : α → α → Prop) (cs : List (List α)) (r : List α) : Prop := r.Pairwise lt ∧ Hit cs r ∧ ∀ z : List α, z.Pairwise lt → Hit cs z → Sub z r → z = r
theorem Meets.sub {c r z : List α} (h : Meets c r) (s : Sub r z) : Meets c z := by
  obtain ⟨n, h1, h2⟩ := h
  exact ⟨n, h1, s n h2⟩
theorem min_ex (o : SO lt) {cs : List (List α)} : ∀ (n : Nat) (z : List α), z.length ≤ n → z.Pairwise lt → Hit cs z → ∃ r, MinH lt cs r ∧ Sub r z := by
  intro n
  induction n with
  | zero =>
    intro z hz pz hh
    exact ⟨z, ⟨pz, hh, fun w pw hw hs => sub_eq o pw pz hs (by omega)⟩, Sub.refl z⟩
  | succ n ih =>
    intro z hz pz hh
    by_cases c : ∀ w : List α, w.Pairwise lt → Hit cs w → Sub w z → w = z
    · exact ⟨z, ⟨pz, hh, c⟩, Sub.refl z⟩
    · obtain ⟨w, h1⟩ := Classical.not_forall.mp c
      obtain ⟨pw, h2⟩ := Classical.not_imp.mp h1
      obtain ⟨hw, h3⟩ := Classical.not_imp.mp h2
      obtain ⟨hs, hne⟩ := Classical.not_imp.mp h3
      have := sub_lt o pw pz hs hne
      obtain ⟨b, hb, hs2⟩ := ih w (by omega) pw hw
      exact ⟨b, hb, hs2.tr hs⟩
/-- what the program makes of a row and a coalition -/
def Grow (lt : α → α → Prop) (c r r' : List α) : Prop := (Meets c r ∧ r' = r) ∨ (¬ Meets c r ∧ ∃ n ∈ c, r'.Pairwise lt ∧ ∀ x, x ∈ r' ↔ x ∈ r ∨ x = n)
theorem berge (o : SO lt) {cs F L S : List (List α)} {c : List α} (hF : ∀ r, r ∈ F ↔ MinH lt cs r) (hL : ∀ r', r' ∈ L → ∃ r ∈ F, Grow lt c r r') (hL2 : ∀ r ∈ F, ∀ r', Grow lt c r r' → r' ∈ L) (hS : ∀ y, y ∈ S ↔ Lst L y) (y : List α)
    (mk : ∀ (r : List α) (n : α), r ∈ F → n ∈ c → n ∉ r → ∃ r' : List α, r'.Pairwise lt ∧ ∀ x, x ∈ r' ↔ x ∈ r ∨ x = n) : y ∈ S ↔ MinH lt (cs ++ [c]) y := by
  have hit_iff : ∀ z, Hit (cs ++ [c]) z ↔ Hit cs z ∧ Meets c z := fun z => by
    constructor
    · exact fun h => ⟨fun d hd => h d (List.mem_append_left _ hd), h c (by simp)⟩
    · rintro ⟨h1, h2⟩ d hd
      rcases List.mem_append.mp hd with e | e
      · exact h1 d e
      · rw [List.mem_singleton.mp e]; exact h2
  have good : ∀ z ∈ L, z.Pairwise lt ∧ Hit (cs ++ [c]) z := fun z hz => by
    obtain ⟨r, hr, g⟩ := hL z hz
    have m := (hF r).mp hr
    rcases g with ⟨g1, rfl⟩ | ⟨_, n, hn, g3, g4⟩
    · exact ⟨m.1, (hit_iff _).mpr ⟨m.2.1, g1⟩⟩
    · refine ⟨g3, (hit_iff _).mpr ⟨fun d hd => (m.2.1 d hd).sub fun x hx => (g4 x).mpr (.inl hx), n, hn, (g4 n).mpr (.inr rfl)⟩⟩
  have cov : ∀ z : List α, z.Pairwise lt → Hit (cs ++ [c]) z → ∃ w ∈ L, Sub w z := fun z pz hz => by
    obtain ⟨h1, h2⟩ := (hit_iff z).mp hz
    obtain ⟨r, mr, rs⟩ := min_ex o _ z (Nat.le_refl _) pz h1
    have hr := (hF r).mpr mr
    by_cases d : Meets c r
    · exact ⟨r, hL2 r hr r (.inl ⟨d, rfl⟩), rs⟩
    · obtain ⟨n, hn, hnz⟩ := h2
      obtain ⟨r', p', m'⟩ := mk r n hr hn fun h => d ⟨n, hn, h⟩
      refine ⟨r', hL2 r hr r' (.inr ⟨d, n, hn, p', m'⟩), fun x hx => ?_⟩
      rcases (m' x).mp hx with e | e
      · exact rs x e
      · rw [e]; exact hnz
  rw [hS]
  constructor
  · rintro ⟨h1, h2⟩
    obtain ⟨g1, g2⟩ := good y h1
    refine ⟨g1, g2, fun z pz hz hs => ?_⟩
    obtain ⟨w, hw, ws⟩ := cov z pz hz
    have := h2 w hw (ws.tr hs)
    subst this
    exact sub_eq o pz g1 hs (sub_len (o.nodup g1) ws)
  · rintro ⟨h1, h2, h3⟩
    obtain ⟨w, hw, ws⟩ := cov y h1 h2
    obtain ⟨g1, g2⟩ := good w hw
    have := h3 w g1 g2 ws
    subst this
    exact ⟨hw, fun z hz hs => h3 z (good z hz).1 (good z hz).2 hs⟩
/-- a least hit lies within any row that has all coalitions -/
theorem min_within (o : SO lt) {cs : List (List α)} {U y : List α} (hU : ∀ c ∈ cs, Sub c U) (h : MinH lt cs y) : Sub y U := by
  have e := h.2.2 (y.filter fun x => decide (x ∈ U)) (h.1.sublist List.filter_sublist) (fun c hc => by
    obtain ⟨n, h1, h2⟩ := h.2.1 c hc
    exact ⟨n, h1, List.mem_filter.mpr ⟨h2, decide_eq_true (hU c hc n h1)⟩⟩) (fun x hx => (List.mem_filter.mp hx).1)
  intro x hx
  rw [← e] at hx
  exact of_decide_eq_true (List.mem_filter.mp hx).2
/-- the least hits among all parts of U -/
theorem due_iff (o : SO lt) {cs AL : List (List α)} {U y : List α} (hU : ∀ c ∈ cs, Sub c U) (hA : ∀ r, r ∈ AL ↔ r.Pairwise lt ∧ Sub r U) {hits : List (List α)} (hh : ∀ r, r ∈ hits ↔ r ∈ AL ∧ Hit cs r) : Lst hits y ↔ MinH lt cs y := by
  constructor
  · rintro ⟨h1, h2⟩
    obtain ⟨ha, hc⟩ := (hh y).mp h1
    obtain ⟨pa, sa⟩ := (hA y).mp ha
    refine ⟨pa, hc, fun z pz hz hs => h2 z ((hh z).mpr ⟨(hA z).mpr ⟨pz, hs.tr sa⟩, hz⟩) hs⟩
  · intro h
    have sU := min_within o hU h
    refine ⟨(hh y).mpr ⟨(hA y).mpr ⟨h.1, sU⟩, h.2.1⟩, fun z hz hs => ?_⟩
    obtain ⟨ha, hc⟩ := (hh z).mp hz
    exact h.2.2 z ((hA z).mp ha).1 hc hs
/-! ### by sizes -/
def bySize (n : Nat) (R : List (List α)) : List (List α) := (List.range n).flatMap fun k => R.filter fun r => decide (r.length = k)
theorem mem_bySize {n : Nat} {R : List (List α)} {r : List α} : r ∈ bySize n R ↔ r ∈ R ∧ r.length < n := by
  unfold bySize
  simp only [List.mem_flatMap, List.mem_range, List.mem_filter, decide_eq_true_eq]
  constructor
  · rintro ⟨k, hk, hr, e⟩; exact ⟨hr, by omega⟩
  · rintro ⟨hr, h⟩; exact ⟨_, h, hr, rfl⟩
theorem bySize_good (o : SO lt) {R : List (List α)} (hR : ∀ r ∈ R, r.Pairwise lt) (nd : R.Nodup) : ∀ n, Good lt (bySize n R)
  | 0 => ⟨fun r hr => by simp [bySize] at hr, by simp [bySize]⟩
  | n + 1 => by
    have ih := bySize_good o hR nd n
    refine ⟨fun r hr => hR r (mem_bySize.mp hr).1, ?_⟩
    have e : bySize (n + 1) R = bySize n R ++ R.filter fun r => decide (r.length = n) := by
      unfold bySize
      rw [List.range_succ, List.flatMap_append]
      simp
    rw [e]
    refine List.pairwise_append.mpr ⟨ih.ord, ?_, ?_⟩
    · refine List.Pairwise.imp_of_mem (R := fun a b => a ≠ b) (fun {a b} ha hb ne hs => ?_) (List.nodup_iff_pairwise_ne.mp (nd.sublist List.filter_sublist))
      obtain ⟨h1, h2⟩ := List.mem_filter.mp ha
      obtain ⟨h3, h4⟩ := List.mem_filter.mp hb
      have e1 := of_decide_eq_true h2
      have e2 := of_decide_eq_true h4
      exact ne (sub_eq o (hR b h3) (hR a h1) hs (by omega)).symm
    · intro a ha b hb hs
      obtain ⟨h1, h2⟩ := mem_bySize.mp ha
      obtain ⟨h3, h4⟩ := List.mem_filter.mp hb
      have e2 := of_decide_eq_true h4
      have := sub_len (o.nodup (hR b h3)) hs
      omega
/-! ### all parts -/
def subs : List α → List (List α)
  | [] => [[]]
  | a :: l => subs l ++ (subs l).map (a :: ·)
theorem subs_len : ∀ l : List α, (subs l).length = 2 ^ l.length
  | [] => rfl
  | a :: l => by
    show (subs l ++ (subs l).map (a :: ·)).length = _
    rw [List.length_append, List.length_map, subs_len l, List.length_cons, Nat.pow_succ]
    omega
theorem mem_subs (o : SO lt) : ∀ {U r : List α}, U.Pairwise lt → r.Pairwise lt → Sub r U → r ∈ subs U
  | [], r, _, _, h => by
    have : r = [] := List.eq_nil_iff_forall_not_mem.mpr fun x hx => absurd (h x hx) (by simp)
    subst this
    exact List.mem_cons_self
  | a :: U, [], pU, pr, h => by
    refine List.mem_append_left _ (mem_subs o (List.pairwise_cons.mp pU).2 List.Pairwise.nil fun x hx => by simp at hx)
  | a :: U, x :: r, pU, pr, h => by
    have pU' := List.pairwise_cons.mp pU
    have pr' := List.pairwise_cons.mp pr
    by_cases e : x = a
    · subst e
      refine List.mem_append_right _ (List.mem_map.mpr ⟨r, mem_subs o pU'.2 pr'.2 fun y hy => ?_, rfl⟩)
      rcases List.mem_cons.mp (h y (List.mem_cons_of_mem _ hy)) with q | q
      · subst q; exact absurd (pr'.1 y hy) (o.irr y)
      · exact q
    · refine List.mem_append_left _ (mem_subs o pU'.2 pr fun y hy => ?_)
      rcases List.mem_cons.mp (h y hy) with q | q
      · subst q
        rcases List.mem_cons.mp hy with f | f
        · exact absurd f.symm e
        · have hx := h x List.mem_cons_self
          rcases List.mem_cons.mp hx with g | g
          · exact absurd g e
          · exact absurd (o.tr _ _ _ (pr'.1 y f) (pU'.1 x g)) (o.irr x)
      · exact q
theorem rows_le (o : SO lt) {U : List α} (pU : U.Pairwise lt) {F : List (List α)} (nd : F.Nodup) (h : ∀ r ∈ F, r.Pairwise lt ∧ Sub r U) : F.length ≤ 2 ^ U.length := by
  rw [← subs_len U]
  exact sub_len nd fun r hr => mem_subs o pU (h r hr).1 (h r hr).2
theorem ins_ex (o : SO lt) (tri : ∀ a b, ¬ lt b a → a ≠ b → lt a b) : ∀ {r : List α} {n : α}, r.Pairwise lt → n ∉ r → ∃ r' : List α, r'.Pairwise lt ∧ ∀ x, x ∈ r' ↔ x ∈ r ∨ x = n
  | [], n, _, _ => ⟨[n], List.pairwise_singleton _ _, fun x => by simp⟩
  | y :: r, n, p, h => by
    have p' := List.pairwise_cons.mp p
    have hy : n ≠ y := fun e => h (by rw [e]; exact List.mem_cons_self)
    by_cases c : lt n y
    · refine ⟨n :: y :: r, List.pairwise_cons.mpr ⟨fun z hz => ?_, p⟩, fun x => by simp; constructor <;> (intro h; rcases h with h | h | h <;> simp [h])⟩
      rcases List.mem_cons.mp hz with e | e
      · rw [e]; exact c
      · exact o.tr _ _ _ c (p'.1 z e)
    · have c2 : lt y n := tri y n c hy.symm
      obtain ⟨r', q, m⟩ := ins_ex o tri (r := r) (n := n) p'.2 fun e => h (List.mem_cons_of_mem _ e)
      refine ⟨y :: r', List.pairwise_cons.mpr ⟨fun z hz => ?_, q⟩, fun x => ?_⟩
      · rcases (m z).mp hz with e | e
        · exact p'.1 z e
        · rw [e]; exact c2
      · rw [List.mem_cons, List.mem_cons, m, or_assoc]
end
end Los
end
section
set_option Elab.async false
set_option linter.all false
set_option autoImplicit false
/-! written forms as texts -/
namespace Od
open PySem PySem.Spec PyProof.Rows L2 Day
def numS (n : Int) : Str := Str.ofString (toString n)
theorem numS_tl (n : Int) : (numS n).cps.toList = if n < 0 then 45 :: TL.numL n.natAbs else TL.numL n.natAbs := by
  cases n with
  | ofNat m =>
    rw [if_neg (by show ¬ ((m : Int) < 0); omega)]
    exact TL.tl_num m
  | negSucc m =>
    rw [if_pos (Int.negSucc_lt_zero m)]
    unfold numS
    rw [Str.ofString_eq_toList]
    show ("-" ++ Nat.repr (m + 1)).toList.map Char.toNat = _
    rw [String.toList_append, List.map_append, Nat.toList_repr]
    rfl
theorem numS_inj {m n : Int} (h : numS m = numS n) : m = n := by
  have e : (numS m).cps.toList = (numS n).cps.toList := by rw [h]
  rw [numS_tl, numS_tl] at e
  have nd : ∀ k : Nat, ∀ l : List Nat, TL.numL k ≠ 45 :: l := fun k l z => by
    have : 45 ∈ TL.numL k := by rw [z]; exact List.mem_cons_self
    exact TL.numL_free (.inl (by decide)) this
  by_cases h1 : m < 0
  · by_cases h2 : n < 0
    · rw [if_pos h1, if_pos h2] at e
      injection e with _ e
      have := TL.numL_inj e
      omega
    · rw [if_pos h1, if_neg h2] at e
      exact absurd e.symm (nd _ _)
  · by_cases h2 : n < 0
    · rw [if_neg h1, if_pos h2] at e
      exact absurd e (nd _ _)
    · rw [if_neg h1, if_neg h2] at e
      have := TL.numL_inj e
      omega
theorem numS_free {k : Nat} (h : k < 45 ∨ (45 < k ∧ k < 48) ∨ 57 < k) (n : Int) : k ∉ (numS n).cps.toList := by
  rw [numS_tl]
  split
  · intro hm
    rcases List.mem_cons.mp hm with e | hm
    · omega
    · exact TL.numL_free (by omega) hm
  · exact TL.numL_free (by omega)
theorem numS_len {n : Int} {k : Nat} (hk : 0 < k) (h : n.natAbs < 10 ^ k) : (numS n).length ≤ k + 1 := by
  have e : (numS n).length = (numS n).cps.toList.length := by simp [Str.length]
  have := TL.numL_len hk h
  rw [e, numS_tl]
  split
  · rw [List.length_cons]; omega
  · omega
/-- the middle as a word -/
def midS (m : List Bool) : Str := if m = [] then ("-" : Str) else rowS m
def strF (F : Frm) : Str := Str.empty ++ rowS F.l ++ (" " : Str) ++ numS F.low ++ (" " : Str) ++ midS F.m ++ (" " : Str) ++ rowS F.r
theorem app_tl (a b : Str) : (a ++ b).cps.toList = a.cps.toList ++ b.cps.toList := by
  show (a.cps ++ b.cps).toList = _
  simp
theorem tl_sp : ((" " : Str)).cps.toList = [32] := by decide +kernel
theorem tl_dash : (("-" : Str)).cps.toList = [45] := by decide +kernel
theorem strF_tl (F : Frm) : (strF F).cps.toList = F.l.map sg ++ 32 :: ((numS F.low).cps.toList ++ 32 :: ((midS F.m).cps.toList ++ 32 :: F.r.map sg)) := by
  unfold strF
  rw [app_tl, app_tl, app_tl, app_tl, app_tl, app_tl, app_tl, tl_sp, rowS_tl, rowS_tl]
  show (([] ++ F.l.map sg ++ [32]) ++ _ ++ _ ++ _ ++ _ ++ _) = _
  simp
theorem cut_at {c : Nat} : ∀ {a a' b b' : List Nat}, c ∉ a → c ∉ a' → a ++ c :: b = a' ++ c :: b' → a = a' ∧ b = b'
  | [], [], _, _, _, _, e => ⟨rfl, by injection e⟩
  | [], x :: a', _, _, _, h, e => by
    injection e with e1 _
    exact absurd (by rw [e1]; exact List.mem_cons_self) h
  | x :: a, [], _, _, h, _, e => by
    injection e with e1 _
    exact absurd (by rw [← e1]; exact List.mem_cons_self) h
  | x :: a, y :: a', b, b', h, h', e => by
    injection e with e1 e2
    obtain ⟨q1, q2⟩ := cut_at (fun m => h (List.mem_cons_of_mem _ m)) (fun m => h' (List.mem_cons_of_mem _ m)) e2
    exact ⟨by rw [e1, q1], q2⟩
theorem sg_free {l : List Bool} {k : Nat} (h : k ≠ 48) (h' : k ≠ 49) : k ∉ l.map sg := fun m => by
  obtain ⟨b, _, e⟩ := List.mem_map.mp m
  cases b
  · exact h e.symm
  · exact h' e.symm
theorem midS_tl (m : List Bool) : (midS m).cps.toList = if m = [] then [45] else m.map sg := by
  unfold midS
  split
  · exact tl_dash
  · rfl
theorem midS_inj {m n : List Bool} (h : (midS m).cps.toList = (midS n).cps.toList) : m = n := by
  rw [midS_tl, midS_tl] at h
  by_cases h1 : m = []
  · by_cases h2 : n = []
    · rw [h1, h2]
    · rw [if_pos h1, if_neg h2] at h
      exact absurd (by rw [← h]; exact List.mem_cons_self) (sg_free (l := n) (k := 45) (by decide) (by decide))
  · by_cases h2 : n = []
    · rw [if_neg h1, if_pos h2] at h
      exact absurd (by rw [h]; exact List.mem_cons_self) (sg_free (l := m) (k := 45) (by decide) (by decide))
    · rw [if_neg h1, if_neg h2] at h
      exact rowS_inj (congrArg SX.S h)
theorem midS_free {k : Nat} (h : k ≠ 48) (h' : k ≠ 49) (h2 : k ≠ 45) (m : List Bool) : k ∉ (midS m).cps.toList := by
  rw [midS_tl]
  split
  · simp [h2]
  · exact sg_free h h'
theorem strF_inj {F G : Frm} (h : strF F = strF G) : F = G := by
  have e : (strF F).cps.toList = (strF G).cps.toList := by rw [h]
  rw [strF_tl, strF_tl] at e
  obtain ⟨e1, e⟩ := cut_at (sg_free (by decide) (by decide)) (sg_free (by decide) (by decide)) e
  obtain ⟨e2, e⟩ := cut_at (numS_free (.inl (by decide)) _) (numS_free (.inl (by decide)) _) e
  obtain ⟨e3, e4⟩ := cut_at (midS_free (by decide) (by decide) (by decide) _) (midS_free (by decide) (by decide) (by decide) _) e
  have h1 := rowS_inj (congrArg SX.S e1)
  have h2 := numS_inj (n := G.low) (m := F.low) (TL.ext_tl e2)
  have h3 := midS_inj e3
  have h4 := rowS_inj (congrArg SX.S e4)
  cases F
  cases G
  simp only at h1 h2 h3 h4
  rw [h1, h2, h3, h4]
end Od
end
section
set_option Elab.async false
set_option linter.all false
set_option maxRecDepth 100000
set_option maxHeartbeats 2000000
set_option autoImplicit false
/-! rows of texts: what they are, their order, their written forms -/
namespace Od
open PySem PySem.Spec PyProof.Rows L2 C8
abbrev Row := List Str
/-- the order of texts -/
def ltS (a b : Str) : Prop := a.cps.toList < b.cps.toList
theorem ltS_so : Los.SO ltS := ⟨fun a h => List.lt_irrefl _ h, fun a b c h k => List.lt_trans h k⟩
theorem ltS_tri {a b : Str} (h : ¬ ltS b a) (ne : a ≠ b) : ltS a b := by
  have h1 : a.cps.toList ≤ b.cps.toList := h
  rcases Classical.em (a.cps.toList < b.cps.toList) with c | c
  · exact c
  · have h2 : b.cps.toList ≤ a.cps.toList := c
    exact absurd (TL.ext_tl (List.le_antisymm h1 h2)) ne
theorem ltS_asc {ys : List Str} (h : sortedS ys = true) (nd : ys.Nodup) : ys.Pairwise ltS := by
  have key : ∀ (ys : List Str) (p : Str), risingS p ys = true → (p :: ys).Nodup → (p :: ys).Pairwise ltS := by
    intro ys
    induction ys with
    | nil => intro p _ _; exact List.pairwise_singleton _ _
    | cons x r ih =>
      intro p h nd
      have h : (!ltCps x.cps.toList p.cps.toList && risingS x r) = true := h
      rw [Bool.and_eq_true, Bool.not_eq_true', ltCps_eq, decide_eq_false_iff_not] at h
      have nd' := List.nodup_cons.mp nd
      have rest := ih x h.2 nd'.2
      have one : ltS p x := ltS_tri h.1 fun e => nd'.1 (by rw [e]; exact List.mem_cons_self)
      refine List.pairwise_cons.mpr ⟨fun y hy => ?_, rest⟩
      rcases List.mem_cons.mp hy with e | e
      · rw [e]; exact one
      · exact ltS_so.tr _ _ _ one ((List.pairwise_cons.mp rest).1 y e)
  cases ys with
  | nil => exact List.Pairwise.nil
  | cons x r => exact key r x h nd
/-- a name's signs are small letters -/
def Nm (z : Str) : Prop := (∀ c ∈ z.cps.toList, 97 ≤ c ∧ c ≤ 122) ∧ z.length ≤ 12
/-- a row: names, ascending -/
structure Rw (r : Row) : Prop where
  asc : r.Pairwise ltS
  nm : ∀ z ∈ r, Nm z
  few : r.length ≤ 8
/-- the signs by which rows are in order -/
def tx (s : Nat) (r : Row) : List Nat := (48 + r.length) :: r.flatMap fun z => s :: z.cps.toList
def rl (a b : Row) : Prop := tx 10 a < tx 10 b
theorem rl_so : Los.SO rl := ⟨fun a h => List.lt_irrefl _ h, fun a b c h k => List.lt_trans h k⟩
theorem rl_len {a b : Row} (h : a.length < b.length) : rl a b := List.cons_lt_cons_iff.mpr (.inl (by omega))
theorem flat_ne10 {z : Str} (h : Nm z) : ∀ c ∈ z.cps.toList, c ≠ 10 := fun c hc => by have := h.1 c hc; omega
theorem split10 : ∀ {x y u v : List Nat}, (∀ c ∈ x, c ≠ 10) → (∀ c ∈ y, c ≠ 10) → (u = [] ∨ u.head? = some 10) → (v = [] ∨ v.head? = some 10) → x ++ u = y ++ v → x = y ∧ u = v
  | [], [], u, v, _, _, _, _, e => ⟨rfl, e⟩
  | [], c :: y, u, v, _, hy, hu, _, e => by
    have e : u = c :: (y ++ v) := e
    rcases hu with h | h
    · rw [h] at e; cases e
    · rw [e] at h
      exact absurd (Option.some.inj h) (hy c List.mem_cons_self)
  | c :: x, [], u, v, hx, _, _, hv, e => by
    have e : c :: (x ++ u) = v := e
    rcases hv with h | h
    · rw [h] at e; cases e
    · rw [← e] at h
      exact absurd (Option.some.inj h) (hx c List.mem_cons_self)
  | c :: x, d :: y, u, v, hx, hy, hu, hv, e => by
    have e : c :: (x ++ u) = d :: (y ++ v) := e
    injection e with e1 e2
    obtain ⟨h1, h2⟩ := split10 (fun z hz => hx z (List.mem_cons_of_mem _ hz)) (fun z hz => hy z (List.mem_cons_of_mem _ hz)) hu hv e2
    exact ⟨by rw [e1, h1], h2⟩
theorem flat_head (b : Row) : (b.flatMap fun z : Str => 10 :: z.cps.toList) = [] ∨ (b.flatMap fun z : Str => 10 :: z.cps.toList).head? = some 10 := by
  cases b with
  | nil => exact .inl rfl
  | cons x b => exact .inr rfl
theorem flat_inj : ∀ {a b : Row}, (∀ z ∈ a, Nm z) → (∀ z ∈ b, Nm z) → (a.flatMap fun z : Str => 10 :: z.cps.toList) = (b.flatMap fun z : Str => 10 :: z.cps.toList) → a = b
  | [], [], _, _, _ => rfl
  | [], y :: b, _, _, e => by simp at e
  | x :: a, [], _, _, e => by simp at e
  | x :: a, y :: b, ha, hb, e => by
    rw [List.flatMap_cons, List.flatMap_cons, List.cons_append, List.cons_append] at e
    injection e with _ e
    obtain ⟨h1, h2⟩ := split10 (flat_ne10 (ha x List.mem_cons_self)) (flat_ne10 (hb y List.mem_cons_self)) (flat_head a) (flat_head b) e
    rw [TL.ext_tl h1, flat_inj (fun z hz => ha z (List.mem_cons_of_mem _ hz)) (fun z hz => hb z (List.mem_cons_of_mem _ hz)) h2]
theorem tx_inj {a b : Row} (ha : ∀ z ∈ a, Nm z) (hb : ∀ z ∈ b, Nm z) (e : tx 10 a = tx 10 b) : a = b := by
  unfold tx at e
  injection e with _ e
  exact flat_inj ha hb e
/-- from one written form to the other -/
def ph (c : Nat) : Nat := if c = 10 then 32 else c
def Al (l : List Nat) : Prop := ∀ c ∈ l, c = 10 ∨ 48 ≤ c
theorem ph_lt {c d : Nat} (hc : c = 10 ∨ 48 ≤ c) (hd : d = 10 ∨ 48 ≤ d) : (ph c < ph d ↔ c < d) ∧ (ph c = ph d ↔ c = d) := by
  unfold ph
  split <;> split <;> omega
theorem ph_list : ∀ {l m : List Nat}, Al l → Al m → (l.map ph < m.map ph ↔ l < m)
  | [], [], _, _ => by simp
  | [], d :: m, _, _ => by simp
  | c :: l, [], _, _ => by simp
  | c :: l, d :: m, hl, hm => by
    obtain ⟨p1, p2⟩ := ph_lt (hl c List.mem_cons_self) (hm d List.mem_cons_self)
    rw [List.map_cons, List.map_cons, List.cons_lt_cons_iff, List.cons_lt_cons_iff, p1, p2, ph_list (fun z hz => hl z (List.mem_cons_of_mem _ hz)) (fun z hz => hm z (List.mem_cons_of_mem _ hz))]
theorem tx_al {a : Row} (ha : ∀ z ∈ a, Nm z) : Al (tx 10 a) := fun c hc => by
  unfold tx at hc
  rcases List.mem_cons.mp hc with e | e
  · omega
  · obtain ⟨z, hz, h⟩ := List.mem_flatMap.mp e
    rcases List.mem_cons.mp h with f | f
    · exact .inl f
    · have := (ha z hz).1 c f
      omega
theorem tx_ph {a : Row} (ha : ∀ z ∈ a, Nm z) : (tx 10 a).map ph = tx 32 a := by
  unfold tx
  rw [List.map_cons, List.map_flatMap]
  have e : ph (48 + a.length) = 48 + a.length := by unfold ph; rw [if_neg (by omega)]
  rw [e]
  congr 1
  induction a with
  | nil => rfl
  | cons x a ih =>
    rw [List.flatMap_cons, List.flatMap_cons, ih (fun z hz => ha z (List.mem_cons_of_mem _ hz)) (by unfold ph; rw [if_neg (by omega)])]
    congr 1
    rw [List.map_cons]
    congr 1
    have : x.cps.toList.map ph = x.cps.toList.map id := List.map_congr_left fun c hc => by
      have := (ha x List.mem_cons_self).1 c hc
      unfold ph
      rw [if_neg (by omega)]
      rfl
    rw [this, List.map_id]
theorem rl_iff {a b : Row} (ha : ∀ z ∈ a, Nm z) (hb : ∀ z ∈ b, Nm z) : tx 32 a < tx 32 b ↔ rl a b := by
  rw [← tx_ph ha, ← tx_ph hb, ph_list (tx_al ha) (tx_al hb)]
  exact Iff.rfl
/-! ### rows in the heap -/
/-- the list p holds the texts of r -/
def IsRow (H : Hp) (p : Addr) (r : Row) : Prop := H p = some (.lst (r.map V.str))
theorem IsRow.le {H H' : Hp} {p : Addr} {r : Row} (h : IsRow H p r) (l : Le H H') : IsRow H' p r := l _ _ h
abbrev PR := List (Addr × Row)
def Prs (H : Hp) (ps : PR) : Prop := ∀ x ∈ ps, IsRow H x.1 x.2
theorem Prs.le {H H' : Hp} {ps : PR} (h : Prs H ps) (l : Le H H') : Prs H' ps := fun x hx => (h x hx).le l
def refs (ps : PR) : List V := ps.map fun x => V.ref x.1
def rows (ps : PR) : List Row := ps.map (·.2)
theorem refs_len (ps : PR) : (refs ps).length = ps.length := List.length_map _
theorem rows_len (ps : PR) : (rows ps).length = ps.length := List.length_map _
theorem eqV_str (a b : Str) : eqV (.str a) (.str b) = decide (a = b) := by
  by_cases h : a = b
  · subst h; rw [decide_eq_true rfl]; first | simp [eqV] | rfl
  · rw [decide_eq_false h]; first | (simp [eqV, h]) | rfl
theorem inV_str (z : Str) (r : Row) : inV (.str z) (r.map V.str) = decide (z ∈ r) := by
  unfold inV
  rw [List.any_map]
  rw [Bool.eq_iff_iff, List.any_eq_true, decide_eq_true_iff]
  constructor
  · rintro ⟨y, hy, h⟩
    have h : eqV (.str y) (.str z) = true := h
    rw [eqV_str] at h
    rw [← of_decide_eq_true h]; exact hy
  · intro h
    exact ⟨z, h, by show eqV (.str z) (.str z) = true; rw [eqV_str]; exact decide_eq_true rfl⟩
theorem flat_row (r : Row) : (r.map V.str).all flatV = true := by
  rw [List.all_map, List.all_eq_true]
  intro x _
  rfl
/-- the row at a value, read off the heap -/
def rowH (H : Hp) : V → Row
  | .ref p => match H p with
    | some (.lst xs) => xs.filterMap fun v => match v with | .str z => some z | _ => none
    | _ => []
  | _ => []
theorem rowH_of {H : Hp} {p : Addr} {r : Row} (h : IsRow H p r) : rowH H (.ref p) = r := by
  unfold rowH
  have h : H p = some (.lst (r.map V.str)) := h
  simp only [h]
  rw [List.filterMap_map]
  induction r with
  | nil => rfl
  | cons x r ih => rw [List.filterMap_cons]; show x :: _ = _; congr 1; exact List.filterMap_some
theorem rows_of {H : Hp} {ps : PR} (h : Prs H ps) {v : V} (hv : v ∈ refs ps) : ∃ x ∈ ps, v = .ref x.1 ∧ rowH H v = x.2 := by
  obtain ⟨x, hx, rfl⟩ := List.mem_map.mp hv
  exact ⟨x, hx, rfl, rowH_of (h x hx)⟩
theorem rows_eq {H : Hp} {ps : PR} (h : Prs H ps) : (refs ps).map (rowH H) = rows ps := by
  unfold refs rows
  rw [List.map_map]
  exact List.map_congr_left fun x hx => rowH_of (h x hx)
/-- values that are all rows, as pairs -/
def prOf (H : Hp) (vs : List V) : PR := vs.filterMap fun v => match v with | .ref p => some (p, rowH H v) | _ => none
theorem le_unlock {H H' : Hp} {d : Addr} {u : HO} {od : Obj} (h : H d = some u) (l : Le (upd H d (.frz od u)) H') : Le H (upd H' d u) := fun a o e => by
  by_cases c : a = d
  · subst c
    rw [h] at e
    rw [upd_self]
    exact e
  · rw [upd_ne c]
    exact l a o (by rw [upd_ne c]; exact e)
theorem gives_keys {kvs : List (Key × V)} : Gives (fun i H x H' => H' = H ∧ ∃ k v, kvs[i]? = some (k, v) ∧ x = kV k) (kvs.map fun e => kV e.1) := fun i H x H' h => ⟨h.1, by
  obtain ⟨_, k, v, hk, rfl⟩ := h
  rw [List.getElem?_map, hk]
  rfl⟩
/-- a comprehension whose turns give rows, new ones or ones that stood -/
theorem lc_rows {J : It} {G : Hp → Prop} {Y : Nat → Hp → V → Hp → Prop} {XS : List V} {n : Nat} (w : Walk J n G Y) (hY : Gives Y XS) {g : TG} {tt : TT} {te : TE} {vs : List Nat} {σ : L2.St} {H1 : Hp} {D : Addr} {Qd : Hp → Prop} (hD : H1 D = none) (hn : XS.length ≤ 16777216)
    (hG : ∀ H, Le H1 H → G H) (Rel : V → Row → Prop)
    (hs : ∀ x H, x ∈ XS → Le H1 H → (∃ acc, H D = some (.lst acc)) → ∀ N : V → Hp → Prop, (∀ p r H2, Le H H2 → p ≠ D → IsRow H2 p r → Rel x r → N (.ref p) H2) → g x (wipe σ vs) H fun σ2 H2 => wipe σ2 vs = wipe σ vs ∧ tt σ2 H2 fun b H3 => b = true ∧ te σ2 H3 fun y H4 => N y H4)
    (htt : ∀ σ2 H2 (M M' : Bool → Hp → Prop), (∀ b H, M b H → M' b H) → tt σ2 H2 M → tt σ2 H2 M')
    (hg : ∀ x σ H (M M' : L2.St → Hp → Prop), (∀ s H, M s H → M' s H) → g x σ H M → g x σ H M')
    (hd : ∀ H (qs : PR), Le H1 H → qs.length = XS.length → Prs H qs → (∀ q ∈ qs, q.1 ≠ D) → (∀ (i : Nat) x q, XS[i]? = some x → qs[i]? = some q → Rel x q.2) → H D = some (.lst (refs qs)) → Qd H) (en : n = XS.length := by first | rfl | simp) :
    ∃ W : Nat → Nat → Hp → Prop, (∃ m, W 0 m (upd H1 D (.lst []))) ∧ ∀ i m H, W i m H →
      (J.stop i H ∧ Qd H) ∨ (J.go i H ∧ ∃ Nx : Hp → Prop, (∀ H', Nx H' → ∃ m', m' < m ∧ W (i + 1) m' H') ∧ ∀ x H', J.yld i H x H' → g x (wipe σ vs) H' fun σ2 H2 => wipe σ2 vs = wipe σ vs ∧ tt σ2 H2 fun b H3 =>
        if b = true then te σ2 H3 fun y H4 => ∃ acc, H4 D = some (.lst acc) ∧ acc.length < sizeLine ∧ Nx (upd H4 D (.lst (acc ++ [y]))) else Nx H3) := by
  subst en
  refine lc_walk w hD (le_szl _ hn) hG (fun i H x H' h => by rw [(hY i H x H' h).1]; exact .refl) (fun i r H => ∃ p rw, r = some (V.ref p) ∧ p ≠ D ∧ IsRow H p rw ∧ ∀ x, XS[i]? = some x → Rel x rw) ?_ ?_ ?_
  · rintro i r H H' l hD2 ⟨p, rw, e, ne, h, hr⟩
    exact ⟨p, rw, e, ne, l _ _ ne h, hr⟩
  · intro i x H H' hi le acc y N hN
    obtain ⟨rfl, hx⟩ := hY i H x H' y
    refine hg _ _ _ _ _ ?_ (hs x H' (List.mem_of_getElem? hx) le acc (fun y H4 => N (some y) H4) fun p r H2 l ne hr rel => hN _ H2 l ⟨p, r, rfl, ne, hr, fun x' hx' => by rw [hx] at hx'; cases hx'; exact rel⟩)
    rintro s H2 ⟨e1, e2⟩
    refine ⟨e1, htt _ _ _ _ ?_ e2⟩
    rintro b H3 ⟨rfl, h⟩
    exact h
  · intro H rs le hl hr e
    have key : ∀ (rs : List (Option V)) (k : Nat), (∀ i r, rs[i]? = some r → ∃ p rw, r = some (V.ref p) ∧ p ≠ D ∧ IsRow H p rw ∧ ∀ x, XS[k + i]? = some x → Rel x rw) → ∃ qs : PR, rs.filterMap id = refs qs ∧ qs.length = rs.length ∧ Prs H qs ∧ (∀ q ∈ qs, q.1 ≠ D) ∧ ∀ (i : Nat) x q, XS[k + i]? = some x → qs[i]? = some q → Rel x q.2 := by
      intro rs
      induction rs with
      | nil => exact fun k _ => ⟨[], rfl, rfl, fun x hx => (by cases hx), fun x hx => (by cases hx), fun i x q _ hq => by simp at hq⟩
      | cons r rs ih =>
        intro k h
        obtain ⟨p, rw, rfl, ne, hp, rel⟩ := h 0 r rfl
        obtain ⟨qs, e1, e2, e3, e4, e5⟩ := ih (k + 1) fun i r hir => by
          obtain ⟨p, rw, h1, h2, h3, h4⟩ := h (i + 1) r hir
          exact ⟨p, rw, h1, h2, h3, fun x hx => h4 x (by rw [← hx]; congr 1; omega)⟩
        refine ⟨(p, rw) :: qs, by rw [List.filterMap_cons]; simp [e1, refs], by simp [e2], fun x hx => ?_, fun x hx => ?_, fun i x q hx hq => ?_⟩
        · rcases List.mem_cons.mp hx with c | c
          · rw [c]; exact hp
          · exact e3 x c
        · rcases List.mem_cons.mp hx with c | c
          · rw [c]; exact ne
          · exact e4 x c
        · cases i with
          | zero => cases hq; exact rel x hx
          | succ i => exact e5 i x q (by rw [← hx]; congr 1; omega) hq
    obtain ⟨qs, e1, e2, e3, e4, e5⟩ := key rs 0 fun i r hir => by
      obtain ⟨p, rw, h1, h2, h3, h4⟩ := hr i r hir
      exact ⟨p, rw, h1, h2, h3, fun x hx => h4 x (by rw [Nat.zero_add] at hx; exact hx)⟩
    refine hd H qs le (by rw [e2, hl]) e3 e4 (fun i x q hx hq => e5 i x q (by rw [Nat.zero_add]; exact hx) hq) ?_
    rw [e, e1]
end Od
end
section
set_option Elab.async false
set_option linter.all false
set_option maxRecDepth 100000
set_option maxHeartbeats 2000000
set_option autoImplicit false
/-! texts that are joined -/
namespace Od
open PySem PySem.Spec PyProof.Rows L2 Day
theorem joinT_L (S : List Nat) : ∀ (r : List (List Nat)) (x : List Nat), TL.joinL S (x :: r) = x ++ r.flatMap fun z => S ++ z
  | [], x => by simp [TL.joinL]
  | y :: r, x => by
    show x ++ (S ++ TL.joinL S (y :: r)) = _
    rw [joinT_L S r y, List.flatMap_cons, List.append_assoc]
theorem joinT_tl (sep : Str) (x : Str) (r : List Str) : (Txt.join sep (x :: r)).cps.toList = x.cps.toList ++ r.flatMap fun z => sep.cps.toList ++ z.cps.toList := by
  have h := (congrArg TL.tl (TL.join_eq sep (x :: r))).trans (TL.tl_join sep (x :: r))
  refine h.trans ?_
  rw [List.map_cons, joinT_L, List.flatMap_map]
theorem app_len (a b : Str) : (a ++ b).length = a.length + b.length := by
  have h := congrArg List.length (app_tl a b)
  rw [List.length_append] at h
  simpa [Str.length] using h
/-- the four words of a form, joined -/
theorem strF_join (F : Frm) : Txt.join (" " : Str) [rowS F.l, numS F.low, midS F.m, rowS F.r] = strF F := by
  refine TL.ext_tl ?_
  show (Txt.join (" " : Str) [rowS F.l, numS F.low, midS F.m, rowS F.r]).cps.toList = (strF F).cps.toList
  rw [joinT_tl, strF_tl, tl_sp]
  simp [rowS_tl]
theorem strF_whole (r : List Bool) : rowS r ++ (" 0 - " : Str) ++ rowS r = strF ⟨r, 0, [], r⟩ := by
  refine TL.ext_tl ?_
  show (rowS r ++ (" 0 - " : Str) ++ rowS r).cps.toList = (strF ⟨r, 0, [], r⟩).cps.toList
  rw [app_tl, app_tl, strF_tl]
  have e1 : (" 0 - " : Str).cps.toList = [32, 48, 32, 45, 32] := by decide +kernel
  have e2 : (numS 0).cps.toList = [48] := by decide +kernel
  have e3 : (midS []).cps.toList = [45] := by decide +kernel
  rw [e1]
  show _ = r.map sg ++ 32 :: ((numS 0).cps.toList ++ 32 :: ((midS []).cps.toList ++ 32 :: r.map sg))
  rw [e2, e3]
  simp [rowS_tl]
end Od
end
section
set_option Elab.async false
set_option linter.all false
set_option maxRecDepth 100000
set_option maxHeartbeats 2000000
set_option autoImplicit false
/-! the text of a map -/
namespace Od
open PySem PySem.Spec PyProof.Rows L2 Day
def chainS (z : Str) : Str := ("chain " : Str) ++ z
def wayS (w : Str × Str × Int) : Str := ("from " : Str) ++ w.1 ++ (" to " : Str) ++ w.2.1 ++ (" by " : Str) ++ numS w.2.2
def chainW (z : Str) : List Str := ["chain", z]
def wayW (w : Str × Str × Int) : List Str := ["from", w.1, "to", w.2.1, "by", numS w.2.2]
def linesS (r : Row) (ws : List (Str × Str × Int)) : List Str := r.map chainS ++ ws.map wayS
def mapS (r : Row) (ws : List (Str × Str × Int)) : Str := Txt.join ("\n" : Str) (linesS r ws)
theorem tl_chain : ("chain " : Str).cps.toList = [99, 104, 97, 105, 110, 32] := by decide +kernel
theorem tl_chain' : ("chain" : Str).cps.toList = [99, 104, 97, 105, 110] := by decide +kernel
theorem tl_from : ("from " : Str).cps.toList = [102, 114, 111, 109, 32] := by decide +kernel
theorem tl_from' : ("from" : Str).cps.toList = [102, 114, 111, 109] := by decide +kernel
theorem tl_to : (" to " : Str).cps.toList = [32, 116, 111, 32] := by decide +kernel
theorem tl_to' : ("to" : Str).cps.toList = [116, 111] := by decide +kernel
theorem tl_by : (" by " : Str).cps.toList = [32, 98, 121, 32] := by decide +kernel
theorem tl_by' : ("by" : Str).cps.toList = [98, 121] := by decide +kernel
theorem tl_blank : (" " : Str).cps.toList = [32] := by decide +kernel
theorem tl_nl : ("\n" : Str).cps.toList = [10] := by decide +kernel
theorem chainS_tl (z : Str) : (chainS z).cps.toList = [99, 104, 97, 105, 110, 32] ++ z.cps.toList := by
  unfold chainS
  rw [app_tl, tl_chain]
theorem wayS_tl (w : Str × Str × Int) : (wayS w).cps.toList = [102, 114, 111, 109, 32] ++ w.1.cps.toList ++ [32, 116, 111, 32] ++ w.2.1.cps.toList ++ [32, 98, 121, 32] ++ (numS w.2.2).cps.toList := by
  unfold wayS
  simp only [app_tl, tl_from, tl_to, tl_by]
theorem chainS_join (z : Str) : chainS z = Txt.join (" " : Str) (chainW z) := by
  refine TL.ext_tl ?_
  show (chainS z).cps.toList = (Txt.join (" " : Str) ["chain", z]).cps.toList
  rw [chainS_tl, joinT_tl, tl_chain', tl_blank]
  simp
theorem wayS_join (w : Str × Str × Int) : wayS w = Txt.join (" " : Str) (wayW w) := by
  refine TL.ext_tl ?_
  show (wayS w).cps.toList = (Txt.join (" " : Str) ["from", w.1, "to", w.2.1, "by", numS w.2.2]).cps.toList
  rw [wayS_tl, joinT_tl, tl_from', tl_blank]
  simp only [List.flatMap_cons, List.flatMap_nil, tl_to', tl_by']
  simp
theorem Nm.free {z : Str} (h : Nm z) {k : Nat} (hk : k < 97) : k ∉ z.cps.toList := fun hm => by
  have := h.1 k hm
  omega
theorem split_chain {z : Str} (h : Nm z) : Txt.split (chainS z) (" " : Str) = chainW z := by
  rw [chainS_join]
  refine TL.split_join (s := 32) (S := []) tl_blank (by decide +kernel) (by simp [chainW]) fun p hp => ?_
  simp only [chainW, List.mem_cons, List.not_mem_nil, or_false] at hp
  rcases hp with rfl | rfl
  · show 32 ∉ ("chain" : Str).cps.toList
    rw [tl_chain']
    decide
  · exact h.free (by decide)
theorem split_way {w : Str × Str × Int} (h1 : Nm w.1) (h2 : Nm w.2.1) : Txt.split (wayS w) (" " : Str) = wayW w := by
  rw [wayS_join]
  refine TL.split_join (s := 32) (S := []) tl_blank (by decide +kernel) (by simp [wayW]) fun p hp => ?_
  simp only [wayW, List.mem_cons, List.not_mem_nil, or_false] at hp
  rcases hp with rfl | rfl | rfl | rfl | rfl | rfl
  · show 32 ∉ ("from" : Str).cps.toList
    rw [tl_from']; decide
  · exact h1.free (by decide)
  · show 32 ∉ ("to" : Str).cps.toList
    rw [tl_to']; decide
  · exact h2.free (by decide)
  · show 32 ∉ ("by" : Str).cps.toList
    rw [tl_by']; decide
  · exact numS_free (.inl (by decide)) _
theorem chain_free {z : Str} (h : Nm z) : 10 ∉ (chainS z).cps.toList := by
  rw [chainS_tl]
  intro hm
  rcases List.mem_append.mp hm with hm | hm
  · revert hm; decide
  · exact h.free (by decide) hm
theorem way_free {w : Str × Str × Int} (h1 : Nm w.1) (h2 : Nm w.2.1) : 10 ∉ (wayS w).cps.toList := by
  rw [wayS_tl]
  intro hm
  simp only [List.mem_append] at hm
  rcases hm with ((((hm | hm) | hm) | hm) | hm) | hm
  · revert hm; decide
  · exact h1.free (by decide) hm
  · revert hm; decide
  · exact h2.free (by decide) hm
  · revert hm; decide
  · exact numS_free (.inl (by decide)) _ hm
/-- a map's parts -/
structure OkMap (r : Row) (ws : List (Str × Str × Int)) : Prop where
  r0 : r ≠ []
  r6 : r.length ≤ 6
  rn : r.Nodup
  nm : ∀ z ∈ r, Nm z ∧ 1 ≤ z.length ∧ z ∉ (["chain", "from", "to", "by", "and", "or", "always", "never"] : List Str)
  w12 : ws.length ≤ 12
  wn : ws.Nodup
  wi : ∀ w ∈ ws, w.1 ∈ r ∧ w.2.1 ∈ r ∧ -30 ≤ w.2.2 ∧ w.2.2 ≤ 30
theorem OkMap.lines {r : Row} {ws : List (Str × Str × Int)} (o : OkMap r ws) : Txt.split (mapS r ws) ("\n" : Str) = linesS r ws := by
  unfold mapS
  refine TL.split_join (s := 10) (S := []) tl_nl (by decide +kernel) (fun e => o.r0 ?_) fun p hp => ?_
  · unfold linesS at e
    rw [List.append_eq_nil_iff] at e
    exact List.map_eq_nil_iff.mp e.1
  · unfold linesS at hp
    rcases List.mem_append.mp hp with hp | hp
    · obtain ⟨z, hz, rfl⟩ := List.mem_map.mp hp
      exact chain_free (o.nm z hz).1
    · obtain ⟨w, hw, rfl⟩ := List.mem_map.mp hp
      have := o.wi w hw
      exact way_free (o.nm _ this.1).1 (o.nm _ this.2.1).1
theorem way_len {w : Str × Str × Int} (h1 : Nm w.1) (h2 : Nm w.2.1) (h : -30 ≤ w.2.2 ∧ w.2.2 ≤ 30) : (wayS w).length ≤ 60 := by
  have h3 := h1.2
  have h4 := h2.2
  have h5 : (numS w.2.2).length ≤ 3 := numS_len (k := 2) (by decide) (by omega)
  have e1 : ("from " : Str).length = 5 := by decide +kernel
  have e2 : (" to " : Str).length = 4 := by decide +kernel
  have e3 : (" by " : Str).length = 4 := by decide +kernel
  unfold wayS
  simp only [app_len]
  omega
theorem chain_len {z : Str} (h : Nm z) : (chainS z).length ≤ 60 := by
  have h3 := h.2
  have e1 : ("chain " : Str).length = 6 := by decide +kernel
  unfold chainS
  rw [app_len]
  omega
theorem join_len (sep : Str) : ∀ (l : List Str), (Txt.join sep l).length ≤ (l.map (·.length)).sum + l.length * sep.length
  | [] => by
    have h := congrArg List.length ((congrArg TL.tl (TL.join_eq sep [])).trans (TL.tl_join sep []))
    have h : (Txt.join sep []).cps.toList.length = 0 := h
    have : (Txt.join sep []).length = 0 := by simpa [Str.length] using h
    omega
  | [x] => by
    have h := congrArg List.length (joinT_tl sep x [])
    simp only [List.flatMap_nil, List.append_nil] at h
    have h : (Txt.join sep [x]).length = x.length := by simpa [Str.length] using h
    rw [h]
    simp
  | x :: y :: l => by
    have h := congrArg List.length (joinT_tl sep x (y :: l))
    have h2 := congrArg List.length (joinT_tl sep y l)
    have ih := join_len sep (y :: l)
    rw [List.flatMap_cons, List.length_append, List.length_append, List.length_append] at h
    rw [List.length_append] at h2
    have g1 : (Txt.join sep (x :: y :: l)).cps.toList.length = (Txt.join sep (x :: y :: l)).length := by simp [Str.length]
    have g2 : (Txt.join sep (y :: l)).cps.toList.length = (Txt.join sep (y :: l)).length := by simp [Str.length]
    have g3 : x.cps.toList.length = x.length := by simp [Str.length]
    have g4 : sep.cps.toList.length = sep.length := by simp [Str.length]
    rw [List.map_cons, List.sum_cons, List.length_cons, Nat.add_mul, Nat.one_mul]
    omega
theorem OkMap.len {r : Row} {ws : List (Str × Str × Int)} (o : OkMap r ws) : (mapS r ws).length ≤ 2000 ∧ ((linesS r ws).map (·.length)).sum ≤ 1080 ∧ (linesS r ws).length ≤ 18 := by
  have key : ∀ l : List Str, (∀ p ∈ l, p.length ≤ 60) → (l.map (·.length)).sum ≤ 60 * l.length := fun l => by
    induction l with
    | nil => intro _; exact Nat.le_refl _
    | cons p l ih =>
      intro h
      have h1 := h p List.mem_cons_self
      have h2 := ih fun q hq => h q (List.mem_cons_of_mem _ hq)
      rw [List.map_cons, List.sum_cons, List.length_cons]
      omega
  have h1 := key (linesS r ws) fun p hp => by
    unfold linesS at hp
    rcases List.mem_append.mp hp with hp | hp
    · obtain ⟨z, hz, rfl⟩ := List.mem_map.mp hp
      exact chain_len (o.nm z hz).1
    · obtain ⟨w, hw, rfl⟩ := List.mem_map.mp hp
      have := o.wi w hw
      exact way_len (o.nm _ this.1).1 (o.nm _ this.2.1).1 this.2.2
  have h2 : (linesS r ws).length = r.length + ws.length := by unfold linesS; rw [List.length_append, List.length_map, List.length_map]
  have h3 := join_len ("\n" : Str) (linesS r ws)
  have h4 : ("\n" : Str).length = 1 := by decide +kernel
  have h5 := o.r6
  have h6 := o.w12
  rw [h4] at h3
  unfold mapS
  refine ⟨by omega, by omega, by omega⟩
theorem str_ne_nil {z : Str} (h : z.cps.toList ≠ []) : z ≠ ("" : Str) := fun e => h (by rw [e]; decide +kernel)
theorem OkMap.ne {r : Row} {ws : List (Str × Str × Int)} (o : OkMap r ws) : mapS r ws ≠ ("" : Str) := by
  refine str_ne_nil ?_
  obtain ⟨z, r', rfl⟩ := List.exists_cons_of_ne_nil o.r0
  unfold mapS linesS
  rw [List.map_cons, List.cons_append, joinT_tl, chainS_tl]
  simp
end Od
end
section
set_option Elab.async false
set_option linter.all false
set_option maxRecDepth 100000
set_option autoImplicit false
/-! walks in a graph whose edges have weights: skeletons, rings -/
namespace Wk
section
variable {α : Type} [DecidableEq α] {E : List (α × α × Int)}
def IsW (E : List (α × α × Int)) : α → List (α × α × Int) → α → Prop
  | a, [], b => a = b
  | a, e :: es, b => e ∈ E ∧ e.1 = a ∧ IsW E e.2.1 es b
def tot (es : List (α × α × Int)) : Int := (es.map fun e => e.2.2).sum
def tgts (es : List (α × α × Int)) : List α := es.map fun e => e.2.1
def srcs (es : List (α × α × Int)) : List α := es.map fun e => e.1
theorem app {a b : α} {u v : List (α × α × Int)} : IsW E a (u ++ v) b ↔ ∃ x, IsW E a u x ∧ IsW E x v b := by
  induction u generalizing a with
  | nil => exact ⟨fun h => ⟨a, rfl, h⟩, fun ⟨x, h1, h2⟩ => by cases h1; exact h2⟩
  | cons e u ih =>
    constructor
    · rintro ⟨h1, h2, h3⟩
      obtain ⟨x, h4, h5⟩ := ih.mp h3
      exact ⟨x, ⟨h1, h2, h4⟩, h5⟩
    · rintro ⟨x, ⟨h1, h2, h4⟩, h5⟩
      exact ⟨h1, h2, ih.mpr ⟨x, h4, h5⟩⟩
theorem tot_app (u v : List (α × α × Int)) : tot (u ++ v) = tot u + tot v := by
  unfold tot
  rw [List.map_append, List.sum_append]
theorem tot_cons (e : α × α × Int) (v : List (α × α × Int)) : tot (e :: v) = e.2.2 + tot v := by
  unfold tot
  rw [List.map_cons, List.sum_cons]
theorem tgts_app (u v : List (α × α × Int)) : tgts (u ++ v) = tgts u ++ tgts v := List.map_append
theorem end_mem {a b : α} {u : List (α × α × Int)} (h : IsW E a u b) : b ∈ a :: tgts u := by
  induction u generalizing a with
  | nil => cases h; exact List.mem_cons_self
  | cons e u ih => exact List.mem_cons_of_mem _ (ih h.2.2)
theorem end_tgt {a b : α} {u : List (α × α × Int)} (h : IsW E a u b) (n : u ≠ []) : b ∈ tgts u := by
  cases u with
  | nil => exact absurd rfl n
  | cons e u => exact end_mem h.2.2
theorem mem_E {a b : α} {u : List (α × α × Int)} (h : IsW E a u b) : ∀ e ∈ u, e ∈ E := by
  induction u generalizing a with
  | nil => intro e he; cases he
  | cons x u ih =>
    intro e he
    rcases List.mem_cons.mp he with rfl | he
    · exact h.1
    · exact ih h.2.2 e he
/-- each vertex that is come to is gone from, or the last one -/
theorem tgt_src {a b : α} {u : List (α × α × Int)} (h : IsW E a u b) : ∀ x ∈ tgts u, x ∈ srcs u ∨ x = b := by
  induction u generalizing a with
  | nil => intro x hx; cases hx
  | cons e u ih =>
    intro x hx
    have hx : x = e.2.1 ∨ x ∈ tgts u := List.mem_cons.mp hx
    rcases hx with rfl | hx
    · cases u with
      | nil =>
        have : e.2.1 = b := h.2.2
        exact .inr this
      | cons f u => exact .inl (List.mem_cons_of_mem _ (by rw [← h.2.2.2.1]; exact List.mem_cons_self))
    · rcases ih h.2.2 x hx with h1 | h1
      · exact .inl (List.mem_cons_of_mem _ h1)
      · exact .inr h1
/-- a walk is cut where it comes by -/
theorem cut_at {a b y : α} {u : List (α × α × Int)} (h : IsW E a u b) (hy : y ∈ a :: tgts u) : ∃ p q, u = p ++ q ∧ IsW E a p y ∧ IsW E y q b := by
  induction u generalizing a with
  | nil =>
    rcases List.mem_cons.mp hy with rfl | hy
    · exact ⟨[], [], rfl, rfl, h⟩
    · cases hy
  | cons e u ih =>
    rcases List.mem_cons.mp hy with rfl | hy
    · exact ⟨[], e :: u, rfl, rfl, h⟩
    · obtain ⟨p, q, e1, h1, h2⟩ := ih h.2.2 hy
      exact ⟨e :: p, q, by rw [e1]; rfl, ⟨h.1, h.2.1, h1⟩, h2⟩
theorem dup_split {β : Type} {f : β → α} : ∀ {l : List β}, ¬ (l.map f).Nodup → ∃ u e m e' v, l = u ++ (e :: m) ++ (e' :: v) ∧ f e = f e'
  | [], h => absurd List.nodup_nil h
  | x :: l, h => by
    by_cases c : f x ∈ l.map f
    · obtain ⟨y, hy, e⟩ := List.mem_map.mp c
      obtain ⟨m, v, rfl⟩ := List.append_of_mem hy
      exact ⟨[], x, m, y, v, by simp, e.symm⟩
    · have : ¬ (l.map f).Nodup := fun n => h (by rw [List.map_cons, List.nodup_cons]; exact ⟨c, n⟩)
      obtain ⟨u, e, m, e', v, rfl, q⟩ := dup_split this
      exact ⟨x :: u, e, m, e', v, by simp, q⟩
/-- a closed walk has a simple ring in it -/
theorem ring_in : ∀ (n : Nat) {x : α} {es : List (α × α × Int)}, es.length ≤ n → IsW E x es x → es ≠ [] → ∃ u r v y, es = u ++ r ++ v ∧ IsW E x u y ∧ IsW E y r y ∧ IsW E y v x ∧ r ≠ [] ∧ (srcs r).Nodup := by
  intro n
  induction n with
  | zero => intro x es h _ ne; cases es with
    | nil => exact absurd rfl ne
    | cons e es => simp at h
  | succ n ih =>
    intro x es hl h ne
    by_cases c : (srcs es).Nodup
    · exact ⟨[], es, [], x, by simp, rfl, h, rfl, ne, c⟩
    · obtain ⟨u, e, m, e', v, rfl, q⟩ := dup_split c
      obtain ⟨z, h1, h2⟩ := app.mp h
      obtain ⟨y, h3, h4⟩ := app.mp h1
      have ey : e.1 = y := h4.2.1
      have ez : e'.1 = z := h2.2.1
      have yz : y = z := by rw [← ey, ← ez]; exact q
      subst yz
      obtain ⟨u', r, v', y', e1, g1, g2, g3, g4, g5⟩ := ih (x := y) (es := e :: m) (by simp at hl ⊢; omega) h4 (by simp)
      exact ⟨u ++ u', r, v' ++ e' :: v, y', by rw [e1]; simp, app.mpr ⟨y, h3, g1⟩, g2, app.mpr ⟨y, g3, h2⟩, g4, g5⟩
/-- a long walk has a ring all of whose vertices it has come by before -/
theorem sup_ring (V : List α) (hV : ∀ e ∈ E, e.1 ∈ V) : ∀ (k : Nat) (sn : List α) (a b : α) (es : List (α × α × Int)), IsW E a es b → sn.Nodup → sn ⊆ V → V.length ≤ sn.length + k → (V.length + 1) * (k + 1) ≤ es.length →
    ∃ u r v y, es = u ++ r ++ v ∧ r ≠ [] ∧ IsW E a u y ∧ IsW E y r y ∧ IsW E y v b ∧ ∀ x ∈ tgts r, x ∈ sn ∨ x ∈ a :: tgts u := by
  intro k
  induction k with
  | zero =>
    intro sn a b es h nd sub hk hl
    exact caseA V hV 0 sn a b es h nd sub hk hl fun e he => by
      refine Classical.byContradiction fun c => ?_
      have h1 := mem_E h e (List.mem_of_mem_take he)
      have h2 : (e.1 :: sn).Nodup := List.nodup_cons.mpr ⟨c, nd⟩
      have h3 := h2.length_le_of_subset (l₂ := V) fun x hx => by
        rcases List.mem_cons.mp hx with rfl | hx
        · exact hV e h1
        · exact sub hx
      rw [List.length_cons] at h3
      omega
  | succ k ih =>
    intro sn a b es h nd sub hk hl
    by_cases c : ∀ e ∈ es.take (V.length + 1), e.1 ∈ sn
    · exact caseA V hV (k + 1) sn a b es h nd sub hk hl c
    · have ⟨e, he, hn⟩ : ∃ e ∈ es.take (V.length + 1), e.1 ∉ sn := Classical.byContradiction fun q => c fun e he => Classical.byContradiction fun z => q ⟨e, he, z⟩
      obtain ⟨u, v, e1⟩ := List.append_of_mem he
      have e2 : es = u ++ (e :: v ++ es.drop (V.length + 1)) := by
        rw [← List.append_assoc, ← e1, List.take_append_drop]
      have hu : u.length + 1 ≤ V.length + 1 := by
        have := congrArg List.length e1
        rw [List.length_take, List.length_append, List.length_cons] at this
        omega
      rw [e2] at h
      obtain ⟨y, h1, h2⟩ := app.mp h
      have ey : e.1 = y := h2.2.1
      have hE := mem_E h2 e (by simp)
      obtain ⟨u', r, v', z, q1, q2, q3, q4, q5, q6⟩ := ih (e.1 :: sn) y b (e :: v ++ es.drop (V.length + 1)) h2 (List.nodup_cons.mpr ⟨hn, nd⟩) (fun x hx => by
        rcases List.mem_cons.mp hx with rfl | hx
        · exact hV e hE
        · exact sub hx) (by rw [List.length_cons]; omega) (by
        have hl2 : es.length = u.length + (e :: v ++ es.drop (V.length + 1)).length := by
          have := congrArg List.length e2
          rw [List.length_append] at this
          exact this
        have : (V.length + 1) * (k + 1 + 1) = (V.length + 1) * (k + 1) + (V.length + 1) := Nat.mul_succ _ _
        omega)
      refine ⟨u ++ u', r, v', z, by rw [e2, q1]; simp, q2, app.mpr ⟨y, h1, q3⟩, q4, q5, fun x hx => ?_⟩
      rw [tgts_app]
      rcases q6 x hx with g | g
      · rcases List.mem_cons.mp g with rfl | g
        · refine .inr ?_
          have := end_mem h1
          rw [← ey] at this
          rcases List.mem_cons.mp this with g | g
          · rw [g]; exact List.mem_cons_self
          · exact List.mem_cons_of_mem _ (List.mem_append_left _ g)
        · exact .inl g
      · refine .inr ?_
        rcases List.mem_cons.mp g with rfl | g
        · rcases List.mem_cons.mp (end_mem h1) with g | g
          · rw [g]; exact List.mem_cons_self
          · exact List.mem_cons_of_mem _ (List.mem_append_left _ g)
        · exact List.mem_cons_of_mem _ (List.mem_append_right _ g)
where
  caseA (V : List α) (hV : ∀ e ∈ E, e.1 ∈ V) (k : Nat) (sn : List α) (a b : α) (es : List (α × α × Int)) (h : IsW E a es b) (nd : sn.Nodup) (sub : sn ⊆ V) (hk : V.length ≤ sn.length + k) (hl : (V.length + 1) * (k + 1) ≤ es.length) (c : ∀ e ∈ es.take (V.length + 1), e.1 ∈ sn) :
      ∃ u r v y, es = u ++ r ++ v ∧ r ≠ [] ∧ IsW E a u y ∧ IsW E y r y ∧ IsW E y v b ∧ ∀ x ∈ tgts r, x ∈ sn ∨ x ∈ a :: tgts u := by
    have hle : V.length + 1 ≤ es.length := Nat.le_trans (Nat.le_mul_of_pos_right _ (Nat.succ_pos k)) hl
    have nn : ¬ ((es.take (V.length + 1)).map fun e => e.1).Nodup := fun n => by
      have h1 := n.length_le_of_subset (l₂ := sn) fun x hx => by
        obtain ⟨e, he, rfl⟩ := List.mem_map.mp hx
        exact c e he
      have h2 := nd.length_le_of_subset sub
      rw [List.length_map, List.length_take] at h1
      omega
    obtain ⟨u, e, m, e', v, q1, q2⟩ := dup_split nn
    have e2 : es = u ++ (e :: m) ++ (e' :: v ++ es.drop (V.length + 1)) := by
      rw [← List.append_assoc, ← q1, List.take_append_drop]
    rw [e2] at h
    obtain ⟨z, h1, h2⟩ := app.mp h
    obtain ⟨y, h3, h4⟩ := app.mp h1
    have ey : e.1 = y := h4.2.1
    have ez : e'.1 = z := h2.2.1
    have yz : y = z := by rw [← ey, ← ez]; exact q2
    subst yz
    refine ⟨u, e :: m, e' :: v ++ es.drop (V.length + 1), y, e2, by simp, h3, h4, h2, fun x hx => .inl ?_⟩
    have mem : ∀ f, f ∈ e :: m → f.1 ∈ sn := fun f hf => c f (by rw [q1]; exact List.mem_append_left _ (List.mem_append_right _ hf))
    rcases tgt_src h4 x hx with g | g
    · obtain ⟨f, hf, rfl⟩ := List.mem_map.mp g
      exact mem f hf
    · rw [g, ← ey]
      exact mem e List.mem_cons_self
/-- a ring of the graph -/
structure Ring (E : List (α × α × Int)) (y : α) (r : List (α × α × Int)) : Prop where
  w : IsW E y r y
  ne : r ≠ []
  nd : (srcs r).Nodup
/-- a walk is a skeleton of few steps with rings -/
theorem skel (V : List α) (hV : ∀ e ∈ E, e.1 ∈ V) (hN : 1 ≤ V.length) : ∀ (n : Nat) {a b : α} {es : List (α × α × Int)}, es.length ≤ n → a ∈ V → IsW E a es b → ∃ (K : List (α × α × Int)) (R : List (List (α × α × Int))), IsW E a K b ∧ K.length < (V.length + 1) * V.length ∧
    (∀ r ∈ R, ∃ y ∈ a :: tgts K, Ring E y r) ∧ tot es = tot K + (R.map tot).sum ∧ es.length = K.length + (R.map List.length).sum ∧ (a :: tgts es) ⊆ (a :: tgts K) := by
  intro n
  induction n with
  | zero =>
    intro a b es hl ha h
    cases es with
    | nil => exact ⟨[], [], h, Nat.mul_pos (Nat.succ_pos _) hN, (fun r hr => absurd hr List.not_mem_nil), by rw [List.map_nil, List.sum_nil]; omega, rfl, fun x hx => hx⟩
    | cons e es => simp at hl
  | succ n ih =>
    intro a b es hl ha h
    by_cases c : es.length < (V.length + 1) * V.length
    · exact ⟨es, [], h, c, (fun r hr => absurd hr List.not_mem_nil), by rw [List.map_nil, List.sum_nil]; omega, by rw [List.map_nil, List.sum_nil]; omega, fun x hx => hx⟩
    · obtain ⟨u, r, v, y, e, g1, g2, g3, g4, g5⟩ := sup_ring V hV (V.length - 1) [a] a b es h (by simp) (fun x hx => by rw [List.mem_singleton.mp hx]; exact ha) (by rw [List.length_singleton]; omega) (by rw [show V.length - 1 + 1 = V.length by omega]; omega)
      obtain ⟨u', r', v', y', e', f1, f2, f3, f4, f5⟩ := ring_in r.length (Nat.le_refl _) g3 g1
      have hlen : es.length = (u ++ u' ++ (v' ++ v)).length + r'.length := by
        rw [e, e']
        simp only [List.length_append]
        omega
      have rpos : 0 < r'.length := List.length_pos_iff.mpr f4
      have hw : IsW E a (u ++ u' ++ (v' ++ v)) b := app.mpr ⟨y', app.mpr ⟨y, g2, f1⟩, app.mpr ⟨y, f3, g4⟩⟩
      obtain ⟨K, R, k1, k2, k3, k4, k5, k6⟩ := ih (by omega) ha hw
      have hsub : (a :: tgts es) ⊆ (a :: tgts (u ++ u' ++ (v' ++ v))) := fun x hx => by
        rcases List.mem_cons.mp hx with rfl | hx
        · exact List.mem_cons_self
        · rw [e, tgts_app, tgts_app] at hx
          rcases List.mem_append.mp hx with hx | hx
          · rcases List.mem_append.mp hx with hx | hx
            · refine List.mem_cons_of_mem _ ?_
              rw [tgts_app, tgts_app]
              exact List.mem_append_left _ (List.mem_append_left _ hx)
            · have hin : ∀ z, z ∈ a :: tgts u → z ∈ a :: tgts (u ++ u' ++ (v' ++ v)) := fun z hz => by
                rcases List.mem_cons.mp hz with rfl | hz
                · exact List.mem_cons_self
                · refine List.mem_cons_of_mem _ ?_
                  rw [tgts_app, tgts_app]
                  exact List.mem_append_left _ (List.mem_append_left _ hz)
              rcases g5 x hx with q | q
              · rw [List.mem_singleton.mp q]; exact List.mem_cons_self
              · exact hin x q
          · refine List.mem_cons_of_mem _ ?_
            rw [tgts_app, tgts_app v']
            exact List.mem_append_right _ (List.mem_append_right _ hx)
      refine ⟨K, r' :: R, k1, k2, fun q hq => ?_, ?_, ?_, fun x hx => k6 (hsub hx)⟩
      · rcases List.mem_cons.mp hq with rfl | hq
        · refine ⟨y', k6 ?_, f2, f4, f5⟩
          have := end_mem (app.mpr ⟨y, g2, f1⟩)
          rcases List.mem_cons.mp this with q | q
          · rw [q]; exact List.mem_cons_self
          · refine List.mem_cons_of_mem _ ?_
            rw [tgts_app]
            exact List.mem_append_left _ q
        · exact k3 q hq
      · rw [List.map_cons, List.sum_cons]
        have : tot es = tot (u ++ u' ++ (v' ++ v)) + tot r' := by
          rw [e, e']
          simp only [tot_app]
          omega
        rw [this, k4]
        omega
      · rw [List.map_cons, List.sum_cons, hlen, k5]
        omega
/-- rings are put in again, any of them, any number of times -/
theorem put_rings {a b : α} {K : List (α × α × Int)} (hK : IsW E a K b) : ∀ (R : List (List (α × α × Int))), (∀ r ∈ R, ∃ y ∈ a :: tgts K, Ring E y r) → ∃ es, IsW E a es b ∧ tot es = tot K + (R.map tot).sum ∧ es.length = K.length + (R.map List.length).sum ∧ (a :: tgts K) ⊆ (a :: tgts es)
  | [], _ => ⟨K, hK, by simp, by simp, fun x hx => hx⟩
  | r :: R, h => by
    obtain ⟨es, h1, h2, h3, h4⟩ := put_rings hK R fun q hq => h q (List.mem_cons_of_mem _ hq)
    obtain ⟨y, hy, rg⟩ := h r List.mem_cons_self
    obtain ⟨p, q, e, g1, g2⟩ := cut_at h1 (h4 hy)
    refine ⟨p ++ r ++ q, app.mpr ⟨y, app.mpr ⟨y, g1, rg.w⟩, g2⟩, ?_, ?_, fun x hx => ?_⟩
    · rw [List.map_cons, List.sum_cons]
      rw [e, tot_app] at h2
      simp only [tot_app]
      omega
    · rw [List.map_cons, List.sum_cons]
      rw [e, List.length_append] at h3
      simp only [List.length_append]
      omega
    · have := h4 hx
      rw [e, tgts_app] at this
      rcases List.mem_cons.mp this with q' | q'
      · rw [q']; exact List.mem_cons_self
      · refine List.mem_cons_of_mem _ ?_
        rw [tgts_app, tgts_app]
        rcases List.mem_append.mp q' with q' | q'
        · exact List.mem_append_left _ (List.mem_append_left _ q')
        · exact List.mem_append_right _ q'
end
end Wk
end
section
set_option Elab.async false
set_option linter.all false
set_option maxRecDepth 100000
set_option autoImplicit false
/-! divisors of a number with a great sum: some of them have just this number as their sum -/
namespace Wk
/-- the least q from 2 on with q * g a divisor of P, 1 if there is none -/
def leastQ (P g : Nat) : Nat := ((List.range (P + 1)).find? fun q => decide (2 ≤ q) && decide (P % (q * g) = 0)).getD 1
/-- the greatest sum of divisors that cannot be put together -/
def bareSum (P : Nat) : Nat := ((List.range P).map fun g => if P % g = 0 then (leastQ P g - 1) * g else 0).sum
theorem bare60 : ∀ P ∈ List.range 61, 0 < P → bareSum P ≤ 168 := by decide +kernel
section
variable {β : Type} {f : β → Nat}
def wt (f : β → Nat) (l : List β) : Nat := (l.map f).sum
theorem wt_app (u v : List β) : wt f (u ++ v) = wt f u + wt f v := by
  unfold wt
  rw [List.map_append, List.sum_append]
theorem wt_flat : ∀ (L : List (List β)), wt f L.flatten = (L.map (wt f)).sum
  | [] => rfl
  | l :: L => by rw [List.flatten_cons, wt_app, List.map_cons, List.sum_cons, wt_flat L]
theorem sum_by (c : List β → Nat) : ∀ (P : Nat) (L : List (List β)), (∀ l ∈ L, wt f l < P) → (L.map (wt f)).sum = ((List.range P).map fun g => L.countP (fun l => decide (wt f l = g)) * g).sum
  | P, [], _ => by
    rw [List.map_nil, List.sum_nil]
    have : ∀ xs : List Nat, (xs.map fun g => List.countP (fun l => decide (wt f l = g)) ([] : List (List β)) * g).sum = 0 := fun xs => by
      induction xs with
      | nil => rfl
      | cons x xs ih => rw [List.map_cons, List.sum_cons, ih, List.countP_nil, Nat.zero_mul]
    exact (this _).symm
  | P, l :: L, h => by
    rw [List.map_cons, List.sum_cons, sum_by c P L fun x hx => h x (List.mem_cons_of_mem _ hx)]
    have hl := h l List.mem_cons_self
    have key : ∀ xs : List Nat, xs.Nodup → (xs.map fun g => List.countP (fun l => decide (wt f l = g)) (l :: L) * g).sum = (if wt f l ∈ xs then wt f l else 0) + (xs.map fun g => List.countP (fun l => decide (wt f l = g)) L * g).sum := fun xs => by
      induction xs with
      | nil => intro _; rfl
      | cons x xs ih =>
        intro nd
        obtain ⟨n1, n2⟩ := List.nodup_cons.mp nd
        rw [List.map_cons, List.sum_cons, List.map_cons, List.sum_cons, ih n2, List.countP_cons]
        by_cases e : wt f l = x
        · subst e
          rw [if_pos (by simp), if_neg n1, if_pos List.mem_cons_self, Nat.add_mul, Nat.one_mul]
          omega
        · rw [if_neg (by simpa using e)]
          by_cases e2 : wt f l ∈ xs
          · rw [if_pos e2, if_pos (List.mem_cons_of_mem _ e2), Nat.add_zero]
            omega
          · rw [if_neg e2, if_neg (fun z => by rcases List.mem_cons.mp z with z | z; exact e z; exact e2 z), Nat.add_zero]
            omega
    rw [key _ List.nodup_range, if_pos (List.mem_range.mpr hl)]
theorem countP_take {p : List β → Bool} {L : List (List β)} {q : Nat} (h : q ≤ L.countP p) : ∃ A B, L.Perm (A ++ B) ∧ A.length = q ∧ ∀ l ∈ A, p l = true := by
  have h1 := (List.filter_append_perm p L).symm
  refine ⟨(L.filter p).take q, (L.filter p).drop q ++ L.filter (fun x => !p x), ?_, ?_, fun l hl => (List.mem_filter.mp (List.mem_of_mem_take hl)).2⟩
  · rw [← List.append_assoc, List.take_append_drop]
    exact h1
  · rw [List.length_take, ← List.countP_eq_length_filter]
    omega
theorem leastQ_ok {P g : Nat} (h : 2 ≤ leastQ P g) : P % (leastQ P g * g) = 0 := by
  unfold leastQ at h ⊢
  cases e : (List.range (P + 1)).find? fun q => decide (2 ≤ q) && decide (P % (q * g) = 0) with
  | none => rw [e] at h; simp at h
  | some q =>
    have := List.find?_some e
    rw [Bool.and_eq_true, decide_eq_true_iff, decide_eq_true_iff] at this
    exact this.2
theorem leastQ_two {P g : Nat} (hP : 0 < P) (hg : P % g = 0) (h0 : 0 < g) (h1 : g < P) : 2 ≤ leastQ P g := by
  unfold leastQ
  have hd : P / g * g = P := Nat.div_mul_cancel (Nat.dvd_of_mod_eq_zero hg)
  have h2 : 2 ≤ P / g := by
    refine Classical.byContradiction fun c => ?_
    have : P / g = 0 ∨ P / g = 1 := by
      generalize P / g = z at c ⊢
      omega
    rcases this with e | e
    · rw [e, Nat.zero_mul] at hd; omega
    · rw [e, Nat.one_mul] at hd; omega
  cases e : (List.range (P + 1)).find? fun q => decide (2 ≤ q) && decide (P % (q * g) = 0) with
  | none =>
    have := List.find?_eq_none.mp e (P / g) (List.mem_range.mpr (Nat.lt_succ_of_le (Nat.div_le_self P g)))
    rw [hd, Nat.mod_self] at this
    simp at this
    omega
  | some q =>
    have := List.find?_some e
    rw [Bool.and_eq_true, decide_eq_true_iff, decide_eq_true_iff] at this
    exact this.1
/-- items whose weights divide P, and are great together: some of them weigh P -/
theorem items_sum {P D : Nat} (hP : 0 < P) (hD : bareSum P < D) : ∀ (n : Nat) (L : List (List β)), L.length ≤ n → (∀ l ∈ L, 0 < wt f l ∧ P % wt f l = 0) → D ≤ (L.map (wt f)).sum → ∃ R1 R2, L.flatten.Perm (R1 ++ R2) ∧ wt f R1 = P := by
  intro n
  induction n with
  | zero =>
    intro L hl _ hs
    cases L with
    | nil => rw [List.map_nil, List.sum_nil] at hs; omega
    | cons l L => simp at hl
  | succ n ih =>
    intro L hl hw hs
    by_cases c : ∃ l ∈ L, wt f l = P
    · obtain ⟨l, h1, h2⟩ := c
      obtain ⟨s, t, rfl⟩ := List.append_of_mem h1
      refine ⟨l, (s ++ t).flatten, ?_, h2⟩
      have : (s ++ l :: t).Perm (l :: (s ++ t)) := List.perm_middle
      have := this.flatten
      rwa [List.flatten_cons] at this
    · have lt : ∀ l ∈ L, wt f l < P := fun l h => by
        obtain ⟨h1, h2⟩ := hw l h
        have h3 := Nat.le_of_dvd hP (Nat.dvd_of_mod_eq_zero h2)
        have h4 : wt f l ≠ P := fun e => c ⟨l, h, e⟩
        omega
      by_cases d : ∃ g, g ∈ List.range P ∧ P % g = 0 ∧ 0 < g ∧ leastQ P g ≤ L.countP (fun l => decide (wt f l = g))
      · obtain ⟨g, h1, h2, h3, h4⟩ := d
        have q2 := leastQ_two hP h2 h3 (List.mem_range.mp h1)
        have qd := leastQ_ok q2
        obtain ⟨A, B, p1, p2, p3⟩ := countP_take h4
        have wA : wt f A.flatten = leastQ P g * g := by
          rw [wt_flat, ← p2]
          clear p1 p2 h4
          induction A with
          | nil => simp
          | cons l A ih2 =>
            rw [List.map_cons, List.sum_cons, ih2 fun x hx => p3 x (List.mem_cons_of_mem _ hx), List.length_cons, Nat.succ_mul]
            have := of_decide_eq_true (p3 l List.mem_cons_self)
            omega
        have hlen : L.length = A.length + B.length := by rw [p1.length_eq, List.length_append]
        have hsum : (L.map (wt f)).sum = wt f A.flatten + (B.map (wt f)).sum := by
          rw [(p1.map (wt f)).sum_nat, List.map_append, List.sum_append, wt_flat]
        obtain ⟨R1, R2, r1, r2⟩ := ih (A.flatten :: B) (by rw [List.length_cons]; omega) (fun l h => by
          rcases List.mem_cons.mp h with rfl | h
          · rw [wA]
            exact ⟨Nat.mul_pos (by omega) h3, qd⟩
          · exact hw l (p1.mem_iff.mpr (List.mem_append_right _ h))) (by rw [List.map_cons, List.sum_cons]; omega)
        refine ⟨R1, R2, ?_, r2⟩
        have e := p1.flatten
        rw [List.flatten_append] at e
        exact e.trans r1
      · exfalso
        have e := sum_by (f := f) (fun _ => 0) P L lt
        have key : ∀ xs : List Nat, (∀ g ∈ xs, g ∈ List.range P) → (xs.map fun g => L.countP (fun l => decide (wt f l = g)) * g).sum ≤ (xs.map fun g => if P % g = 0 then (leastQ P g - 1) * g else 0).sum := fun xs => by
          induction xs with
          | nil => intro _; exact Nat.le_refl _
          | cons g xs ih2 =>
            intro hm
            have i2 := ih2 fun x hx => hm x (List.mem_cons_of_mem _ hx)
            rw [List.map_cons, List.sum_cons, List.map_cons, List.sum_cons]
            refine Nat.add_le_add ?_ i2
            by_cases z : g = 0
            · subst z; simp
            by_cases m : P % g = 0
            · rw [if_pos m]
              refine Nat.mul_le_mul_right _ ?_
              have : ¬ leastQ P g ≤ L.countP (fun l => decide (wt f l = g)) := fun q => d ⟨g, hm g List.mem_cons_self, m, by omega, q⟩
              omega
            · rw [if_neg m]
              have : L.countP (fun l => decide (wt f l = g)) = 0 := List.countP_eq_zero.mpr fun l hl => by
                intro q
                have q := of_decide_eq_true q
                exact m (by rw [← q]; exact (hw l hl).2)
              rw [this, Nat.zero_mul]
              exact Nat.le_refl _
        have := key _ fun g hg => hg
        rw [← e] at this
        have hb : bareSum P = ((List.range P).map fun g => if P % g = 0 then (leastQ P g - 1) * g else 0).sum := rfl
        omega
/-- .. the same of things with weights -/
theorem things_sum {P D : Nat} (hP : 0 < P) (hD : bareSum P < D) (L : List β) (hw : ∀ x ∈ L, 0 < f x ∧ P % f x = 0) (hs : D ≤ (L.map f).sum) : ∃ R1 R2, L.Perm (R1 ++ R2) ∧ (R1.map f).sum = P := by
  obtain ⟨R1, R2, h1, h2⟩ := items_sum (f := f) hP hD L.length (L.map fun x => [x]) (by rw [List.length_map]; exact Nat.le_refl _) (fun l hl => by
    obtain ⟨x, hx, rfl⟩ := List.mem_map.mp hl
    have e : wt f [x] = f x := by unfold wt; simp
    rw [e]
    exact hw x hx) (by
    rw [List.map_map]
    have e : (wt f ∘ fun x => [x]) = f := by
      funext x
      show wt f [x] = f x
      unfold wt
      simp
    rw [e]
    exact hs)
  refine ⟨R1, R2, ?_, h2⟩
  have e : (L.map fun x => [x]).flatten = L := by
    clear h1 hs hw
    induction L with
    | nil => rfl
    | cons x L ih => rw [List.map_cons, List.flatten_cons, ih]; rfl
  rwa [e] at h1
end
end Wk
end
section
set_option Elab.async false
set_option linter.all false
set_option maxRecDepth 100000
set_option autoImplicit false
/-! functions of days that come again from some day on -/
namespace Od
open Day
theorem _root_.Day.Up.mulN {f : Int → Bool} {p b : Int} (h0 : 0 < p) (h : Up f p b) (k : Nat) : Up f ((k : Int) * p) b := fun n hn => h.nat h0 k n hn
theorem _root_.Day.Dn.mulN {f : Int → Bool} {p b : Int} (h0 : 0 < p) (h : Dn f p b) (k : Nat) : Dn f ((k : Int) * p) b := fun n hn => h.nat h0 k n hn
/-- sizes within which the sets are worked on -/
structure Ok (f : Int → Bool) (c b : Int) : Prop where
  c0 : 0 < c
  c1 : c ≤ 200000
  b0 : 0 ≤ b
  b1 : b ≤ 1000000
  fit : Fit f c b
theorem Ok.neg {f : Int → Bool} {c b : Int} (o : Ok f c b) (hb : b + 1 ≤ 1000000) : Ok (fun n => f (-n)) c (b + 1) := by
  have b0 := o.b0
  refine ⟨o.c0, o.c1, by omega, hb, fun n hn => ?_, fun n hn => ?_⟩
  · show f (-(n + c)) = f (-n)
    rw [show -(n + c) = -n - c by omega]
    exact o.fit.2 (-n) (by omega)
  · show f (-(n - c)) = f (-n)
    rw [show -(n - c) = -n + c by omega]
    exact o.fit.1 (-n) (by omega)
theorem Ok.not {f : Int → Bool} {c b : Int} (o : Ok f c b) : Ok (fun n => !f n) c b :=
  ⟨o.c0, o.c1, o.b0, o.b1, fun n hn => by show (!f (n + c)) = !f n; rw [o.fit.1 n hn], fun n hn => by show (!f (n - c)) = !f n; rw [o.fit.2 n hn]⟩
theorem Ok.bin {f g : Int → Bool} {c b : Int} (o1 : Ok f c b) (o2 : Ok g c b) (t : Bool → Bool → Bool) : Ok (fun n => t (f n) (g n)) c b :=
  ⟨o1.c0, o1.c1, o1.b0, o1.b1, fun n hn => by show t (f (n + c)) (g (n + c)) = _; rw [o1.fit.1 n hn, o2.fit.1 n hn], fun n hn => by show t (f (n - c)) (g (n - c)) = _; rw [o1.fit.2 n hn, o2.fit.2 n hn]⟩
theorem Ok.mono {f : Int → Bool} {c b b' : Int} (o : Ok f c b) (h : b ≤ b') (h' : b' ≤ 1000000) : Ok f c b' :=
  ⟨o.c0, o.c1, by have := o.b0; omega, h', o.fit.1.mono h, o.fit.2.mono (by omega)⟩
theorem Ok.to {f g : Int → Bool} {c b : Int} (o : Ok f c b) (h : ∀ n, f n = g n) : Ok g c b := by
  have : f = g := funext h
  subst this
  exact o
/-- a period several times -/
theorem Ok.times {f : Int → Bool} {c b : Int} (o : Ok f c b) (k : Nat) (hk : 0 < k) (h : (k : Int) * c ≤ 200000) : Ok f (k * c) b :=
  ⟨by have := o.c0; exact Int.mul_pos (by omega) this, h, o.b0, o.b1, o.fit.1.mulN o.c0 k, o.fit.2.mulN o.c0 k⟩
theorem Ok.neg' {f : Int → Bool} {c b b' : Int} (o : Ok f c b) (h : b + 1 ≤ b') (h' : b' ≤ 1000000) : Ok (fun n => f (-n)) c b' := (o.neg (by omega)).mono h h'
theorem Ok.mv {f : Int → Bool} {c b b' k : Int} (o : Ok f c b) (h : b + k ≤ b') (h2 : b - k ≤ b') (h' : b' ≤ 1000000) : Ok (fun n => f (n - k)) c b' := by
  have b0 := o.b0
  refine ⟨o.c0, o.c1, by omega, h', fun n hn => ?_, fun n hn => ?_⟩
  · show f (n + c - k) = f (n - k)
    rw [show n + c - k = n - k + c by omega]
    exact o.fit.1 _ (by omega)
  · show f (n - c - k) = f (n - k)
    rw [show n - c - k = n - k - c by omega]
    exact o.fit.2 _ (by omega)
theorem Ok.kst {t : Bool} {c b : Int} (c0 : 0 < c) (c1 : c ≤ 200000) (b0 : 0 ≤ b) (b1 : b ≤ 1000000) : Ok (fun _ => t) c b := ⟨c0, c1, b0, b1, fun _ _ => rfl, fun _ _ => rfl⟩
def zeroF : Int → Bool := fun n => decide (n ∈ [(0 : Int)])
theorem zeroF_iff {n : Int} : zeroF n = true ↔ n = 0 := by unfold zeroF; simp
theorem Ok.zero {c b : Int} (c0 : 0 < c) (c1 : c ≤ 200000) (b0 : 1 ≤ b) (b1 : b ≤ 1000000) : Ok zeroF c b := by
  have key : ∀ n : Int, n ≠ 0 → zeroF n = false := fun n hn => by
    cases h : zeroF n with
    | false => rfl
    | true => exact absurd (zeroF_iff.mp h) hn
  exact ⟨c0, c1, by omega, b1, fun n hn => by rw [key n (by omega), key _ (by omega)], fun n hn => by rw [key n (by omega), key _ (by omega)]⟩
theorem Ok.per {f : Int → Bool} {c b : Int} (o : Ok f c b) (k : Int) (hk : 0 < k) (h : k * c ≤ 200000) : Ok f (k * c) b := by
  have := o.times k.toNat (by omega)
  rw [show (k.toNat : Int) = k by omega] at this
  exact this h
def inF (ds : List Int) : Int → Bool := fun n => decide (n ∈ ds)
theorem inF_iff {ds : List Int} {n : Int} : inF ds n = true ↔ n ∈ ds := decide_eq_true_iff
theorem Ok.inF {ds : List Int} {S : Int} (h : ∀ d ∈ ds, -S ≤ d ∧ d ≤ S) (S0 : 0 ≤ S) (S1 : S ≤ 1000) : Ok (inF ds) 1 (S + 1) := by
  have key : ∀ n : Int, (S < n ∨ n < -S) → Od.inF ds n = false := fun n hn => by
    cases e : Od.inF ds n with
    | false => rfl
    | true => have := h n (inF_iff.mp e); omega
  exact ⟨by decide, by decide, by omega, by omega, fun n hn => by rw [key n (by omega), key _ (by omega)], fun n hn => by rw [key n (by omega), key _ (by omega)]⟩
theorem cyc_of {l : List Bool} {c : Nat} (l0 : l ≠ []) (h : c % l.length = 0) (z : Int) : cyc l (z + c) = cyc l z := by
  have h0 := prim_len l0
  obtain ⟨q, hq⟩ := Nat.dvd_of_mod_eq_zero h
  unfold cyc
  rw [show z + (c : Int) = z + (l.length : Int) * (q : Int) by rw [← Int.natCast_mul, ← hq], Int.add_mul_emod_self_left]
/-- a form's function -/
theorem Frm.okF {l : List Bool} {k : Int} {m r : List Bool} {c : Nat} {b : Int} (l0 : l ≠ []) (r0 : r ≠ []) (ll : c % l.length = 0) (lr : c % r.length = 0) (c0 : 0 < c) (c1 : c ≤ 200000) (b0 : 0 ≤ b) (b1 : b ≤ 1000000) (k0 : -b ≤ k) (k1 : k + m.length ≤ b) : Ok (Frm.mk l k m r).mem c b := by
  refine ⟨by omega, by omega, b0, b1, fun n hn => ?_, fun n hn => ?_⟩
  · have hh : (Frm.mk l k m r).high = k + m.length := rfl
    rw [Frm.mem_up _ (by rw [hh]; omega), Frm.mem_up _ (by rw [hh]; omega)]
    rw [show n + (c : Int) - (Frm.mk l k m r).high = n - (Frm.mk l k m r).high + c by omega]
    exact cyc_of r0 lr _
  · rw [Frm.mem_dn _ (by show n - (c : Int) < k; omega), Frm.mem_dn _ (by show n < k; omega)]
    have := cyc_of l0 ll (n - c - k)
    rw [show n - (c : Int) - k + c = n - k by omega] at this
    exact this.symm
theorem div12 {n : Nat} (h0 : 0 < n) (h : n ≤ 4) : 12 % n = 0 := by
  have : n = 1 ∨ n = 2 ∨ n = 3 ∨ n = 4 := by omega
  rcases this with rfl | rfl | rfl | rfl <;> decide
/-- h has just the sums of a day of f and one of g -/
def IsSum (f g h : Int → Bool) : Prop := ∀ n, h n = true ↔ ∃ a b, f a = true ∧ g b = true ∧ n = a + b
theorem Ok.sum {f g h : Int → Bool} {c b : Int} (o1 : Ok f c b) (o2 : Ok g c b) (s : IsSum f g h) (hb : 2 * b + c ≤ 1000000) : Ok h c (2 * b + c) := by
  have c0 := o1.c0
  have b0 := o1.b0
  refine ⟨c0, o1.c1, by omega, hb, fun n hn => ?_, fun n hn => ?_⟩
  · have f1 : ∀ x, b ≤ x → f (x + c) = f x := o1.fit.1
    have g1 : ∀ x, b ≤ x → g (x + c) = g x := o2.fit.1
    rw [Bool.eq_iff_iff, s, s]
    constructor
    · rintro ⟨x, y, hx, hy, e⟩
      by_cases h1 : b + c ≤ x
      · refine ⟨x - c, y, ?_, hy, by omega⟩
        rw [← f1 (x - c) (by omega), show x - c + c = x by omega]
        exact hx
      · refine ⟨x, y - c, hx, ?_, by omega⟩
        rw [← g1 (y - c) (by omega), show y - c + c = y by omega]
        exact hy
    · rintro ⟨x, y, hx, hy, e⟩
      by_cases h1 : b ≤ x
      · exact ⟨x + c, y, by rw [f1 x h1]; exact hx, hy, by omega⟩
      · exact ⟨x, y + c, hx, by rw [g1 y (by omega)]; exact hy, by omega⟩
  · have f1 : ∀ x, x < -b → f (x - c) = f x := o1.fit.2
    have g1 : ∀ x, x < -b → g (x - c) = g x := o2.fit.2
    rw [Bool.eq_iff_iff, s, s]
    constructor
    · rintro ⟨x, y, hx, hy, e⟩
      by_cases h1 : x < -b - c
      · refine ⟨x + c, y, ?_, hy, by omega⟩
        rw [← f1 (x + c) (by omega), show x + c - c = x by omega]
        exact hx
      · refine ⟨x, y + c, hx, ?_, by omega⟩
        rw [← g1 (y + c) (by omega), show y + c - c = y by omega]
        exact hy
    · rintro ⟨x, y, hx, hy, e⟩
      by_cases h1 : x < -b
      · exact ⟨x - c, y, by rw [f1 x h1]; exact hx, hy, by omega⟩
      · exact ⟨x, y - c, hx, by rw [g1 y (by omega)]; exact hy, by omega⟩
def IsInner (f g h : Int → Bool) : Prop := ∀ n, h n = true ↔ ∀ b, g b = true → f (n + b) = true
end Od
end
section
set_option autoImplicit false
/-! all sums of days of a set: by rests (days of one sign), by the greatest common divisor (both signs) -/
namespace Day
/-- sums of none, one or more of Y -/
inductive Star (Y : Int → Prop) : Int → Prop where
  | zero : Star Y 0
  | add {n y : Int} (h : Star Y n) (hy : Y y) : Star Y (n + y)
theorem Star.plus {Y : Int → Prop} {m n : Int} (h : Star Y m) (k : Star Y n) : Star Y (m + n) := by
  induction k with
  | zero => rw [Int.add_zero]; exact h
  | @add n y _ hy ih => rw [← Int.add_assoc]; exact ih.add hy
theorem Star.one {Y : Int → Prop} {y : Int} (h : Y y) : Star Y y := by
  have := (Star.zero (Y := Y)).add h
  rwa [Int.zero_add] at this
theorem Star.times {Y : Int → Prop} {y : Int} (h : Star Y y) : ∀ k : Nat, Star Y (k * y)
  | 0 => by rw [show ((0 : Nat) : Int) * y = 0 by simp]; exact .zero
  | k + 1 => by
    have := (h.times k).plus h
    rw [show ((k + 1 : Nat) : Int) * y = (k : Int) * y + y by rw [Int.natCast_add, Int.add_mul]; simp]
    exact this
theorem Star.mono {Y Z : Int → Prop} (h : ∀ y, Y y → Z y) {n : Int} (s : Star Y n) : Star Z n := by
  induction s with
  | zero => exact .zero
  | add _ hy ih => exact ih.add (h _ hy)
theorem Star.bind {Y Z : Int → Prop} (h : ∀ y, Y y → Star Z y) {n : Int} (s : Star Y n) : Star Z n := by
  induction s with
  | zero => exact .zero
  | add _ hy ih => exact ih.plus (h _ hy)
/-! ### the search by rests -/
structure Dj (Y : Int → Prop) (step : Int) (Tf To : Int → Option Int) : Prop where
  f : ∀ k v, Tf k = some v → v % step = k ∧ Star Y v ∧ ∀ w, Star Y w → w % step = k → v ≤ w
  o : ∀ k v, To k = some v → v % step = k ∧ Star Y v ∧ Tf k = none
  e : ∀ k v y, Tf k = some v → Y y → (∃ u, Tf ((v + y) % step) = some u) ∨ ∃ u, To ((v + y) % step) = some u ∧ u ≤ v + y
  z : (∃ u, Tf 0 = some u) ∨ ∃ u, To 0 = some u ∧ u ≤ 0
theorem Dj.claim {Y : Int → Prop} {step : Int} {Tf To : Int → Option Int} (D : Dj Y step Tf To) (pos : ∀ y, Y y → 0 ≤ y) {w : Int} (h : Star Y w) : (∃ u, Tf (w % step) = some u ∧ u ≤ w) ∨ ∃ k v, To k = some v ∧ v ≤ w := by
  induction h with
  | zero =>
    rw [Int.zero_emod]
    rcases D.z with ⟨u, hu⟩ | ⟨u, hu, h0⟩
    · exact .inl ⟨u, hu, (D.f 0 u hu).2.2 0 .zero (Int.zero_emod _)⟩
    · exact .inr ⟨0, u, hu, h0⟩
  | @add n y hn hy ih =>
    have := pos y hy
    rcases ih with ⟨u, hu, hle⟩ | ⟨k, v, hv, hle⟩
    · have e1 : (u + y) % step = (n + y) % step := by rw [Int.add_emod, (D.f _ u hu).1, ← Int.add_emod]
      rcases D.e _ u y hu hy with ⟨u', hu'⟩ | ⟨u', hu', hle'⟩
      · rw [e1] at hu'
        exact .inl ⟨u', hu', (D.f _ u' hu').2.2 (n + y) (hn.add hy) rfl⟩
      · exact .inr ⟨_, u', hu', by omega⟩
    · exact .inr ⟨k, v, hv, by omega⟩
theorem Dj.done {Y : Int → Prop} {step : Int} {Tf To : Int → Option Int} (D : Dj Y step Tf To) (pos : ∀ y, Y y → 0 ≤ y) (h : ∀ k, To k = none) {w : Int} (hw : Star Y w) : ∃ u, Tf (w % step) = some u ∧ u ≤ w := by
  rcases D.claim pos hw with h1 | ⟨k, v, hv, _⟩
  · exact h1
  · rw [h k] at hv; cases hv
/-- amid a turn: rest has just been found, the ways P have been looked at -/
structure Dk (Y P : Int → Prop) (step rest least : Int) (Tf To : Int → Option Int) : Prop where
  f : ∀ k v, Tf k = some v → v % step = k ∧ Star Y v ∧ ∀ w, Star Y w → w % step = k → v ≤ w
  o : ∀ k v, To k = some v → v % step = k ∧ Star Y v ∧ Tf k = none
  e : ∀ k v y, Tf k = some v → Y y → (k = rest → P y) → (∃ u, Tf ((v + y) % step) = some u) ∨ ∃ u, To ((v + y) % step) = some u ∧ u ≤ v + y
  z : (∃ u, Tf 0 = some u) ∨ ∃ u, To 0 = some u ∧ u ≤ 0
  r : Tf rest = some least
theorem Dj.pick {Y : Int → Prop} {step : Int} {Tf To : Int → Option Int} (D : Dj Y step Tf To) (pos : ∀ y, Y y → 0 ≤ y) {rest least : Int} (hr : To rest = some least) (hmin : ∀ k v, To k = some v → least ≤ v) :
    Dk Y (fun _ => False) step rest least (fun k => if k = rest then some least else Tf k) (fun k => if k = rest then none else To k) := by
  have h1 := D.o _ _ hr
  have hl : ∀ w, Star Y w → w % step = rest → least ≤ w := fun w hw e => by
    rcases D.claim pos hw with ⟨u, hu, _⟩ | ⟨k, v, hv, hle⟩
    · rw [e, h1.2.2] at hu; cases hu
    · have := hmin k v hv
      omega
  refine ⟨fun k v hk => ?_, fun k v hk => ?_, fun k v y hk hy hP => ?_, ?_, if_pos rfl⟩
  · by_cases c : k = rest
    · simp only [if_pos c] at hk
      cases hk
      subst c
      exact ⟨h1.1, h1.2.1, hl⟩
    · simp only [if_neg c] at hk
      exact D.f k v hk
  · by_cases c : k = rest
    · simp only [if_pos c] at hk
      cases hk
    · simp only [if_neg c] at hk ⊢
      exact D.o k v hk
  · by_cases c : k = rest
    · exact (hP c).elim
    · simp only [if_neg c] at hk
      by_cases c2 : (v + y) % step = rest
      · exact .inl ⟨least, if_pos c2⟩
      · simp only [if_neg c2]
        exact D.e k v y hk hy
  · by_cases c : (0 : Int) = rest
    · exact .inl ⟨least, if_pos c⟩
    · simp only [if_neg c]
      exact D.z
theorem Dk.all {Y : Int → Prop} {step rest least : Int} {Tf To : Int → Option Int} (D : Dk Y Y step rest least Tf To) : Dj Y step Tf To := ⟨D.f, D.o, fun k v y hk hy => D.e k v y hk hy fun _ => hy, D.z⟩
theorem Dk.to {Y P P' : Int → Prop} {step rest least : Int} {Tf To : Int → Option Int} (D : Dk Y P step rest least Tf To) (h : ∀ y, P' y → P y) : Dk Y P' step rest least Tf To := ⟨D.f, D.o, fun k v y hk hy hP => D.e k v y hk hy fun e => h y (hP e), D.z, D.r⟩
/-- a way that leads to something found, or to something open that is no farther -/
theorem Dk.skip {Y P : Int → Prop} {step rest least : Int} {Tf To : Int → Option Int} (D : Dk Y P step rest least Tf To) {y : Int} (h : (∃ u, Tf ((least + y) % step) = some u) ∨ ∃ u, To ((least + y) % step) = some u ∧ u ≤ least + y) : Dk Y (fun x => P x ∨ x = y) step rest least Tf To := by
  refine ⟨D.f, D.o, fun k v x hk hx hP => ?_, D.z, D.r⟩
  by_cases c : k = rest
  · subst c
    rw [D.r] at hk
    cases hk
    rcases hP rfl with h1 | rfl
    · exact D.e k least x D.r hx fun _ => h1
    · exact h
  · exact D.e k v x hk hx fun e => absurd e c
/-- a way that leads to something new, or nearer -/
theorem Dk.take {Y P : Int → Prop} {step rest least : Int} {Tf To : Int → Option Int} (D : Dk Y P step rest least Tf To) {y : Int} (hy : Y y) (hn : Tf ((least + y) % step) = none) (hle : ∀ u, To ((least + y) % step) = some u → least + y ≤ u) :
    Dk Y (fun x => P x ∨ x = y) step rest least Tf (fun k => if k = (least + y) % step then some (least + y) else To k) := by
  have up : ∀ k u b, To k = some u → u ≤ b → ∃ u', (if k = (least + y) % step then some (least + y) else To k) = some u' ∧ u' ≤ b := fun k u b hk hb => by
    by_cases c : k = (least + y) % step
    · rw [c] at hk
      have := hle u hk
      exact ⟨least + y, if_pos c, by omega⟩
    · exact ⟨u, by rw [if_neg c]; exact hk, hb⟩
  refine ⟨D.f, fun k v hk => ?_, fun k v x hk hx hP => ?_, ?_, D.r⟩
  · by_cases c : k = (least + y) % step
    · simp only [if_pos c] at hk
      cases hk
      subst c
      exact ⟨rfl, (D.f _ _ D.r).2.1.add hy, hn⟩
    · simp only [if_neg c] at hk
      exact D.o k v hk
  · have old : (k = rest → P x) → (∃ u, Tf ((v + x) % step) = some u) ∨ ∃ u, (if (v + x) % step = (least + y) % step then some (least + y) else To ((v + x) % step)) = some u ∧ u ≤ v + x := fun h => by
      rcases D.e k v x hk hx h with h1 | ⟨u, hu, hb⟩
      · exact .inl h1
      · exact .inr (up _ u _ hu hb)
    by_cases c : k = rest
    · rcases hP c with h1 | rfl
      · exact old fun _ => h1
      · subst c
        rw [D.r] at hk
        cases hk
        exact .inr ⟨least + x, if_pos rfl, Int.le_refl _⟩
    · exact old fun e => absurd e c
  · rcases D.z with h1 | ⟨u, hu, hb⟩
    · exact .inl h1
    · exact .inr (up _ u _ hu hb)
theorem Dj.start (Y : Int → Prop) (step : Int) : Dj Y step (fun _ => none) (fun k => if k = 0 then some 0 else none) := by
  refine ⟨fun k v h => (by cases h), fun k v hk => ?_, fun k v y h => (by cases h), .inr ⟨0, if_pos rfl, Int.le_refl _⟩⟩
  by_cases c : k = 0
  · simp only [if_pos c] at hk
    cases hk
    exact ⟨by rw [Int.zero_emod, c], .zero, rfl⟩
  · simp only [if_neg c] at hk
    cases hk
/-! ### both signs -/
theorem Star.neg_day {Y : Int → Prop} {a b : Int} (ha : Y a) (hb : Y b) (a0 : 0 < a) (b0 : b < 0) : Star Y (-a) ∧ Star Y (-b) := by
  constructor
  · have h1 := (Star.one ha).times (-b - 1).toNat
    have h2 := (Star.one hb).times a.toNat
    have := h1.plus h2
    rw [show (((-b - 1).toNat : Nat) : Int) = -b - 1 by omega, show ((a.toNat : Nat) : Int) = a by omega] at this
    rw [show (-b - 1) * a + a * b = -a by rw [Int.sub_mul, Int.neg_mul, Int.mul_comm b a]; omega] at this
    exact this
  · have h1 := (Star.one ha).times (-b).toNat
    have h2 := (Star.one hb).times (a - 1).toNat
    have := h1.plus h2
    rw [show (((-b).toNat : Nat) : Int) = -b by omega, show (((a - 1).toNat : Nat) : Int) = a - 1 by omega] at this
    rw [show -b * a + (a - 1) * b = -b by rw [Int.sub_mul, Int.neg_mul, Int.mul_comm b a]; omega] at this
    exact this
theorem Star.neg {Y : Int → Prop} {a b : Int} (ha : Y a) (hb : Y b) (a0 : 0 < a) (b0 : b < 0) {n : Int} (h : Star Y n) : Star Y (-n) := by
  induction h with
  | zero => exact .zero
  | @add n y _ hy ih =>
    have hy' : Star Y (-y) := by
      rcases Int.lt_trichotomy y 0 with c | c | c
      · exact (Star.neg_day ha hy a0 c).2
      · rw [c]; exact .zero
      · exact (Star.neg_day hy hb c b0).1
    rw [Int.neg_add]
    exact ih.plus hy'
/-- a set of sums that has the negative of each: it is closed under whole multiples -/
theorem Star.whole {Y : Int → Prop} (hn : ∀ n, Star Y n → Star Y (-n)) {g : Int} (h : Star Y g) (k : Int) : Star Y (k * g) := by
  rcases Int.lt_or_le k 0 with c | c
  · have := hn _ (h.times (-k).toNat)
    rw [show (((-k).toNat : Nat) : Int) = -k by omega, Int.neg_mul, Int.neg_neg] at this
    exact this
  · have := h.times k.toNat
    rwa [show ((k.toNat : Nat) : Int) = k by omega] at this
theorem gcd_comb (a b : Nat) : ∃ x y : Int, ((Nat.gcd a b : Nat) : Int) = x * a + y * b := by
  refine Nat.gcd.induction (P := fun a b => ∃ x y : Int, ((Nat.gcd a b : Nat) : Int) = x * a + y * b) a b (fun n => ⟨0, 1, by rw [Nat.gcd_zero_left]; omega⟩) fun m n hm ih => ?_
  obtain ⟨x, y, e⟩ := ih
  refine ⟨y - x * ((n / m : Nat) : Int), x, ?_⟩
  rw [Nat.gcd_rec, e]
  have h1 : (n : Int) = m * ((n / m : Nat) : Int) + ((n % m : Nat) : Int) := by rw [← Int.natCast_mul, ← Int.natCast_add, Nat.div_add_mod]
  rw [h1, Int.mul_add, Int.sub_mul, Int.mul_assoc, Int.mul_comm ((n / m : Nat) : Int) (m : Int)]
  omega
theorem gcd_star {Y : Int → Prop} (hn : ∀ n, Star Y n → Star Y (-n)) {a b : Int} (ha : Star Y a) (hb : Star Y b) : Star Y ((Nat.gcd a.natAbs b.natAbs : Nat) : Int) := by
  obtain ⟨x, y, e⟩ := gcd_comb a.natAbs b.natAbs
  rw [e]
  have abs : ∀ z, Star Y z → Star Y (z.natAbs : Int) := fun z hz => by
    rcases Int.lt_or_le z 0 with c | c
    · rw [show (z.natAbs : Int) = -z by omega]; exact hn z hz
    · rw [show (z.natAbs : Int) = z by omega]; exact hz
  exact (Star.whole hn (abs a ha) x).plus (Star.whole hn (abs b hb) y)
end Day
end
section
set_option Elab.async false
set_option linter.all false
set_option maxRecDepth 100000
set_option autoImplicit false
/-! what walks come to: it comes again, up and down -/
namespace Wk
open Day Od
section
variable {α : Type} [DecidableEq α] {E : List (α × α × Int)}
def Wr (E : List (α × α × Int)) (a b : α) (n : Int) : Prop := ∃ es, IsW E a es b ∧ tot es = n
/-- a graph of few vertices, small weights, whose simple rings' weights divide P -/
structure Gr (E : List (α × α × Int)) (V : List α) (N : Nat) (M P : Int) : Prop where
  src : ∀ e ∈ E, e.1 ∈ V
  tgt : ∀ e ∈ E, e.2.1 ∈ V
  n1 : V.length ≤ N
  m0 : 0 ≤ M
  m1 : ∀ e ∈ E, -M ≤ e.2.2 ∧ e.2.2 ≤ M
  p0 : 0 < P
  pd : bareSum P.toNat ≤ 168
  rg : ∀ y r, Ring E y r → tot r ≠ 0 → P % tot r = 0
theorem IsW.mono {E' : List (α × α × Int)} (h : ∀ e ∈ E, e ∈ E') : ∀ {a b : α} {es : List (α × α × Int)}, IsW E a es b → IsW E' a es b
  | a, b, [], q => q
  | a, b, e :: es, q => ⟨h e q.1, q.2.1, IsW.mono h q.2.2⟩
theorem Gr.sub {E' : List (α × α × Int)} {V : List α} {N : Nat} {M P : Int} (g : Gr E V N M P) (h : ∀ e ∈ E', e ∈ E) : Gr E' V N M P :=
  ⟨fun e he => g.src e (h e he), fun e he => g.tgt e (h e he), g.n1, g.m0, fun e he => g.m1 e (h e he), g.p0, g.pd, fun y r q => g.rg y r ⟨q.w.mono h, q.ne, q.nd⟩⟩
theorem tot_le {V : List α} {N : Nat} {M P : Int} (g : Gr E V N M P) : ∀ {es : List (α × α × Int)}, (∀ e ∈ es, e ∈ E) → -(M * es.length) ≤ tot es ∧ tot es ≤ M * es.length
  | [], _ => by
    show -(M * (0 : Nat)) ≤ (0 : Int) ∧ (0 : Int) ≤ M * (0 : Nat)
    simp
  | e :: es, h => by
    obtain ⟨h1, h2⟩ := tot_le g (es := es) fun x hx => h x (List.mem_cons_of_mem _ hx)
    obtain ⟨h3, h4⟩ := g.m1 e (h e List.mem_cons_self)
    rw [tot_cons, List.length_cons, show ((es.length + 1 : Nat) : Int) = (es.length : Int) + 1 by omega, Int.mul_add, Int.mul_one]
    omega
theorem perm_tot {L L' : List (List (α × α × Int))} (p : L.Perm L') : (L.map tot).sum = (L'.map tot).sum := by
  induction p with
  | nil => rfl
  | cons x _ ih => rw [List.map_cons, List.sum_cons, List.map_cons, List.sum_cons, ih]
  | swap x y l => simp only [List.map_cons, List.sum_cons]; omega
  | trans _ _ h1 h2 => exact h1.trans h2
/-- how far a skeleton goes -/
def S0 (N : Nat) (M : Int) : Int := M * (((N + 1) * N - 1 : Nat) : Int)
/-- a walk: its skeleton, its rings; what is made of them -/
theorem Gr.skel {V : List α} {N : Nat} {M P : Int} (g : Gr E V N M P) {a b : α} (ha : a ∈ V) {es : List (α × α × Int)} (h : IsW E a es b) : ∃ (s : Int) (R : List (List (α × α × Int))) (l : Nat), -(S0 N M) ≤ s ∧ s ≤ S0 N M ∧ tot es = s + (R.map tot).sum ∧ es.length = l + (R.map List.length).sum ∧ (∀ r ∈ R, ∃ y, Ring E y r) ∧
    ∀ R' : List (List (α × α × Int)), (∀ r ∈ R', r ∈ R) → ∃ es', IsW E a es' b ∧ tot es' = s + (R'.map tot).sum ∧ es'.length = l + (R'.map List.length).sum := by
  obtain ⟨K, R, k1, k2, k3, k4, k5, k6⟩ := Wk.skel V g.src (List.length_pos_of_mem ha) es.length (Nat.le_refl _) ha h
  have hK := tot_le g (mem_E k1)
  have hl : K.length ≤ (N + 1) * N - 1 := by
    have h1 : (V.length + 1) * V.length ≤ (N + 1) * N := Nat.mul_le_mul (Nat.succ_le_succ g.n1) g.n1
    omega
  have hM : M * (K.length : Int) ≤ S0 N M := Int.mul_le_mul_of_nonneg_left (by omega) g.m0
  refine ⟨tot K, R, K.length, by omega, by omega, k4, k5, fun r hr => ?_, fun R' hR' => ?_⟩
  · obtain ⟨y, _, q⟩ := k3 r hr
    exact ⟨y, q⟩
  · obtain ⟨es', h1, h2, h3, _⟩ := put_rings k1 R' fun r hr => k3 r (hR' r hr)
    exact ⟨es', h1, h2, h3⟩
theorem sum_pos {L : List (List (α × α × Int))} (h : 0 < (L.map tot).sum) : ∃ r ∈ L, 0 < tot r := by
  refine Classical.byContradiction fun c => ?_
  have : ∀ L : List (List (α × α × Int)), (∀ r ∈ L, tot r ≤ 0) → (L.map tot).sum ≤ 0 := fun L => by
    induction L with
    | nil => intro _; exact Int.le_refl _
    | cons r L ih =>
      intro q
      rw [List.map_cons, List.sum_cons]
      have := q r List.mem_cons_self
      have := ih fun x hx => q x (List.mem_cons_of_mem _ hx)
      omega
  have := this L fun r hr => by
    refine Int.not_lt.mp fun z => c ⟨r, hr, z⟩
  omega
theorem sum_rep (k : Nat) (r : List (α × α × Int)) : ((List.replicate k r).map tot).sum = (k : Int) * tot r := by
  induction k with
  | zero => simp
  | succ k ih => rw [List.replicate_succ, List.map_cons, List.sum_cons, ih, show ((k + 1 : Nat) : Int) = (k : Int) + 1 by omega, Int.add_mul, Int.one_mul]; omega
/-- upwards: one period more -/
theorem Gr.more {V : List α} {N : Nat} {M P : Int} (g : Gr E V N M P) {a b : α} (ha : a ∈ V) {n : Int} (hn : S0 N M < n) (h : Wr E a b n) : Wr E a b (n + P) := by
  obtain ⟨es, h1, rfl⟩ := h
  obtain ⟨s, R, l, s1, s2, e, _, hr, put⟩ := g.skel ha h1
  obtain ⟨r, hr1, hr2⟩ := sum_pos (L := R) (by omega)
  obtain ⟨y, ry⟩ := hr r hr1
  have hd := g.rg y r ry (by omega)
  have hk : P / tot r * tot r = P := Int.ediv_mul_cancel (Int.dvd_of_emod_eq_zero hd)
  have hp := g.p0
  have k0 : 0 ≤ P / tot r := Int.ediv_nonneg (by omega) (by omega)
  obtain ⟨es', q1, q2, _⟩ := put (List.replicate (P / tot r).toNat r ++ R) fun x hx => by
    rcases List.mem_append.mp hx with hx | hx
    · rw [(List.mem_replicate.mp hx).2]
      exact hr1
    · exact hx
  refine ⟨es', q1, ?_⟩
  rw [q2, List.map_append, List.sum_append, sum_rep, show (((P / tot r).toNat : Nat) : Int) = P / tot r by omega, hk, e]
  omega
/-- rings whose weights make up a period -/
theorem Gr.rings {V : List α} {N : Nat} {M P : Int} (g : Gr E V N M P) {R : List (List (α × α × Int))} (hr : ∀ r ∈ R, ∃ y, Ring E y r) (h : 169 ≤ ((R.filter fun r => decide (0 < tot r)).map tot).sum) : ∃ R1 R2, R.Perm (R1 ++ R2) ∧ (R1.map tot).sum = P ∧ R1 ≠ [] := by
  have hp := g.p0
  have e1 : ∀ L : List (List (α × α × Int)), (∀ r ∈ L, 0 < tot r) → ((L.map fun r => (tot r).toNat).sum : Int) = (L.map tot).sum := fun L => by
    induction L with
    | nil => intro _; rfl
    | cons r L ih =>
      intro q
      rw [List.map_cons, List.sum_cons, List.map_cons, List.sum_cons, ← ih fun x hx => q x (List.mem_cons_of_mem _ hx)]
      have := q r List.mem_cons_self
      omega
  have pos : ∀ r ∈ R.filter fun r => decide (0 < tot r), 0 < tot r := fun r hr => of_decide_eq_true (List.mem_filter.mp hr).2
  obtain ⟨R1, R2, p1, p2⟩ := things_sum (f := fun r : List (α × α × Int) => (tot r).toNat) (P := P.toNat) (D := 169) (by omega) (by have := g.pd; omega) (R.filter fun r => decide (0 < tot r)) (fun r hr' => by
    have h0 := pos r hr'
    obtain ⟨y, q⟩ := hr r (List.mem_filter.mp hr').1
    have hd := g.rg y r q (by omega)
    refine ⟨by omega, ?_⟩
    have : ((P.toNat % (tot r).toNat : Nat) : Int) = 0 := by
      rw [Int.natCast_emod, show (P.toNat : Int) = P by omega, show ((tot r).toNat : Int) = tot r by omega, hd]
    omega) (by
    have := e1 _ pos
    omega)
  refine ⟨R1, R2 ++ R.filter (fun r => !decide (0 < tot r)), ?_, ?_, fun z => ?_⟩
  · rw [← List.append_assoc]
    exact (List.filter_append_perm (fun r => decide (0 < tot r)) R).symm.trans (p1.append (List.Perm.refl _))
  · rw [← e1 R1 fun r hr => pos r (p1.mem_iff.mpr (List.mem_append_left _ hr))]
    have p2 : (R1.map fun r => (tot r).toNat).sum = P.toNat := p2
    rw [p2]
    omega
  · subst z
    have p2 : (0 : Nat) = P.toNat := p2
    omega
theorem pos_ge {R : List (List (α × α × Int))} : (R.map tot).sum ≤ ((R.filter fun r => decide (0 < tot r)).map tot).sum := by
  induction R with
  | nil => exact Int.le_refl _
  | cons r R ih =>
    rw [List.map_cons, List.sum_cons, List.filter_cons]
    by_cases c : 0 < tot r
    · rw [if_pos (decide_eq_true c), List.map_cons, List.sum_cons]
      omega
    · rw [if_neg (by simpa using c)]
      omega
/-- upwards: one period less -/
theorem Gr.less {V : List α} {N : Nat} {M P : Int} (g : Gr E V N M P) {a b : α} (ha : a ∈ V) {n : Int} (hn : S0 N M + 169 ≤ n) (h : Wr E a b n) : Wr E a b (n - P) := by
  obtain ⟨es, h1, rfl⟩ := h
  obtain ⟨s, R, l, s1, s2, e, _, hr, put⟩ := g.skel ha h1
  have := pos_ge (R := R)
  obtain ⟨R1, R2, p1, p2, _⟩ := g.rings hr (by omega)
  obtain ⟨es', q1, q2, _⟩ := put R2 fun x hx => p1.mem_iff.mpr (List.mem_append_right _ hx)
  refine ⟨es', q1, ?_⟩
  have := perm_tot p1
  rw [List.map_append, List.sum_append] at this
  omega
/-! ### the graph turned -/
def ng (e : α × α × Int) : α × α × Int := (e.1, e.2.1, -e.2.2)
theorem ng_ng (e : α × α × Int) : ng (ng e) = e := by
  obtain ⟨x, y, z⟩ := e
  show (x, y, - -z) = _
  rw [Int.neg_neg]
theorem IsW.ng : ∀ {a b : α} {es : List (α × α × Int)}, IsW E a es b → IsW (E.map Wk.ng) a (es.map Wk.ng) b
  | a, b, [], h => h
  | a, b, e :: es, h => ⟨List.mem_map.mpr ⟨e, h.1, rfl⟩, h.2.1, IsW.ng h.2.2⟩
theorem tot_ng : ∀ es : List (α × α × Int), tot (es.map Wk.ng) = -tot es
  | [] => rfl
  | e :: es => by
    rw [List.map_cons, tot_cons, tot_cons, tot_ng es]
    show -e.2.2 + -tot es = _
    omega
theorem map_ng_ng (l : List (α × α × Int)) : (l.map Wk.ng).map Wk.ng = l := by
  rw [List.map_map]
  have : (Wk.ng ∘ Wk.ng : α × α × Int → α × α × Int) = id := funext fun e => ng_ng e
  rw [this, List.map_id]
theorem Wr.ng {a b : α} {n : Int} (h : Wr E a b n) : Wr (E.map Wk.ng) a b (-n) := by
  obtain ⟨es, h1, rfl⟩ := h
  exact ⟨es.map Wk.ng, h1.ng, tot_ng es⟩
theorem Wr.ng' {a b : α} {n : Int} (h : Wr (E.map Wk.ng) a b n) : Wr E a b (-n) := by
  have := h.ng
  rwa [map_ng_ng] at this
theorem srcs_ng (r : List (α × α × Int)) : srcs (r.map Wk.ng) = srcs r := by
  unfold srcs
  rw [List.map_map]
  rfl
theorem Gr.ng {V : List α} {N : Nat} {M P : Int} (g : Gr E V N M P) : Gr (E.map Wk.ng) V N M P := by
  refine ⟨fun e he => ?_, fun e he => ?_, g.n1, g.m0, fun e he => ?_, g.p0, g.pd, fun y r q h0 => ?_⟩
  · obtain ⟨f, hf, rfl⟩ := List.mem_map.mp he
    exact g.src f hf
  · obtain ⟨f, hf, rfl⟩ := List.mem_map.mp he
    exact g.tgt f hf
  · obtain ⟨f, hf, rfl⟩ := List.mem_map.mp he
    have := g.m1 f hf
    show -M ≤ -f.2.2 ∧ -f.2.2 ≤ M
    omega
  · have q2 : Ring E y (r.map Wk.ng) := ⟨by have := q.w.ng; rwa [map_ng_ng] at this, fun z => q.ne (List.map_eq_nil_iff.mp z), by rw [srcs_ng]; exact q.nd⟩
    have := g.rg y _ q2 (by rw [tot_ng]; omega)
    rw [tot_ng] at this
    rw [Int.emod_neg] at this
    exact this
/-- .. downwards -/
theorem Gr.more' {V : List α} {N : Nat} {M P : Int} (g : Gr E V N M P) {a b : α} (ha : a ∈ V) {n : Int} (hn : n < -S0 N M) (h : Wr E a b n) : Wr E a b (n - P) := by
  have := (g.ng.more ha (n := -n) (by omega) h.ng).ng'
  rwa [show -(-n + P) = n - P by omega] at this
theorem Gr.less' {V : List α} {N : Nat} {M P : Int} (g : Gr E V N M P) {a b : α} (ha : a ∈ V) {n : Int} (hn : n ≤ -(S0 N M + 169)) (h : Wr E a b n) : Wr E a b (n + P) := by
  have := (g.ng.less ha (n := -n) (by omega) h.ng).ng'
  rwa [show -(-n - P) = n + P by omega] at this
/-- the walks of a graph as a set of days -/
noncomputable def wB (p : Int → Prop) : Int → Bool := fun n => @decide (p n) (Classical.propDecidable _)
theorem wB_iff {p : Int → Prop} {n : Int} : wB p n = true ↔ p n := by
  unfold wB
  exact @decide_eq_true_iff (p n) (Classical.propDecidable _)
theorem fit_of {p : Int → Prop} {P B : Int} (h1 : ∀ n, B ≤ n → p n → p (n + P)) (h2 : ∀ n, B ≤ n → p (n + P) → p n) (h3 : ∀ n, n < -B → p n → p (n - P)) (h4 : ∀ n, n < -B → p (n - P) → p n) : Fit (wB p) P B :=
  ⟨fun n hn => by rw [Bool.eq_iff_iff, wB_iff, wB_iff]; exact ⟨h2 n hn, h1 n hn⟩, fun n hn => by rw [Bool.eq_iff_iff, wB_iff, wB_iff]; exact ⟨h4 n hn, h3 n hn⟩⟩
theorem Gr.fit {V : List α} {N : Nat} {M P B : Int} (g : Gr E V N M P) {a b : α} (ha : a ∈ V) (hB : S0 N M + 169 ≤ B) : Fit (wB (Wr E a b)) P B := by
  have hp := g.p0
  refine fit_of (fun n hn h => g.more ha (by omega) h) (fun n hn h => ?_) (fun n hn h => g.more' ha (by omega) h) (fun n hn h => ?_)
  · have := g.less ha (by omega) h
    rwa [show n + P - P = n by omega] at this
  · have := g.less' ha (by omega) h
    rwa [show n - P + P = n by omega] at this
/-! ### walks whose inner vertices are told -/
inductive WI (E : List (α × α × Int)) (A : α → Prop) : α → α → Int → Prop
  | one {e : α × α × Int} (h : e ∈ E) : WI E A e.1 e.2.1 e.2.2
  | cons {e : α × α × Int} {b : α} {n : Int} (h : e ∈ E) (hA : A e.2.1) (w : WI E A e.2.1 b n) : WI E A e.1 b (e.2.2 + n)
theorem WI.mono {A A' : α → Prop} (i : ∀ x, A x → A' x) {a b : α} {n : Int} (h : WI E A a b n) : WI E A' a b n := by
  induction h with
  | one h => exact .one h
  | cons h hA _ ih => exact .cons h (i _ hA) ih
theorem WI.app {A : α → Prop} {a m b : α} {n k : Int} (h : WI E A a m n) (hm : A m) (q : WI E A m b k) : WI E A a b (n + k) := by
  induction h with
  | one h => exact .cons h hm q
  | cons h hA _ ih =>
    have := WI.cons h hA (ih hm q)
    rwa [← Int.add_assoc] at this
/-- one inner vertex more -/
theorem WI.kleene {A : α → Prop} {m a b : α} {n : Int} : WI E (fun x => A x ∨ x = m) a b n ↔ WI E A a b n ∨ ∃ x s y, WI E A a m x ∧ Star (WI E A m m) s ∧ WI E A m b y ∧ n = x + s + y := by
  constructor
  · intro h
    induction h with
    | one h => exact .inl (.one h)
    | @cons e b n h hA _ ih =>
      by_cases c : e.2.1 = m
      · rw [c] at ih
        have h1 : WI E A e.1 m e.2.2 := by
          have := WI.one (A := A) h
          rwa [c] at this
        rcases ih with ih | ⟨x, s, y, i1, i2, i3, rfl⟩
        · exact .inr ⟨e.2.2, 0, n, h1, .zero, ih, by omega⟩
        · exact .inr ⟨e.2.2, s + x, y, h1, .add i2 i1, i3, by omega⟩
      · have hA : A e.2.1 := hA.elim id fun z => absurd z c
        rcases ih with ih | ⟨x, s, y, i1, i2, i3, rfl⟩
        · exact .inl (.cons h hA ih)
        · exact .inr ⟨e.2.2 + x, s, y, .cons h hA i1, i2, i3, by omega⟩
  · rintro (h | ⟨x, s, y, h1, h2, h3, rfl⟩)
    · exact h.mono fun _ => .inl
    · have key : ∀ s, Star (WI E A m m) s → ∀ y, WI E (fun x => A x ∨ x = m) m b y → WI E (fun x => A x ∨ x = m) m b (s + y) := fun s hs => by
        induction hs with
        | zero => intro y hy; rwa [Int.zero_add]
        | @add k z _ hz ih =>
          intro y hy
          have := ih (z + y) ((hz.mono (A' := fun x => A x ∨ x = m) fun _ => .inl).app (.inr rfl) hy)
          rwa [show k + z + y = k + (z + y) by omega]
      have := (h1.mono (A' := fun x => A x ∨ x = m) fun _ => .inl).app (.inr rfl) (key s h2 y (h3.mono fun _ => .inl))
      rwa [← Int.add_assoc] at this
/-- any walk: nothing at all, or inner vertices of any kind -/
theorem Wr.iff {A : α → Prop} (hA : ∀ e ∈ E, A e.2.1) {a b : α} {n : Int} : Wr E a b n ↔ WI E A a b n ∨ (a = b ∧ n = 0) := by
  constructor
  · rintro ⟨es, h, rfl⟩
    induction es generalizing a with
    | nil => exact .inr ⟨h, rfl⟩
    | cons e es ih =>
      obtain ⟨h1, rfl, h3⟩ := h
      rw [tot_cons]
      rcases ih h3 with q | ⟨q, q2⟩
      · exact .inl (.cons h1 (hA e h1) q)
      · rw [q2, Int.add_zero, ← q]
        exact .inl (.one h1)
  · rintro (h | ⟨rfl, rfl⟩)
    · induction h with
      | @one e h => exact ⟨[e], ⟨h, rfl, rfl⟩, by rw [tot_cons]; exact Int.add_zero _⟩
      | @cons e b n h _ _ ih =>
        obtain ⟨es, q, rfl⟩ := ih
        exact ⟨e :: es, ⟨h, rfl, q⟩, tot_cons e es⟩
    · exact ⟨[], rfl, rfl⟩
/-- the edges between told vertices -/
def Ei (E : List (α × α × Int)) (A : List α) : List (α × α × Int) := E.filter fun e => decide (e.1 ∈ A) && decide (e.2.1 ∈ A)
theorem mem_Ei {A : List α} {e : α × α × Int} : e ∈ Ei E A ↔ e ∈ E ∧ e.1 ∈ A ∧ e.2.1 ∈ A := by
  unfold Ei
  rw [List.mem_filter, Bool.and_eq_true, decide_eq_true_iff, decide_eq_true_iff]
theorem WI.split {A : List α} {a b : α} {n : Int} : WI E (· ∈ A) a b n ↔ (∃ e ∈ E, e.1 = a ∧ e.2.1 = b ∧ e.2.2 = n) ∨ ∃ e ∈ E, ∃ f ∈ E, e.1 = a ∧ e.2.1 ∈ A ∧ f.1 ∈ A ∧ f.2.1 = b ∧ Wr (Ei E A) e.2.1 f.1 (n - e.2.2 - f.2.2) := by
  constructor
  · intro h
    induction h with
    | @one e h => exact .inl ⟨e, h, rfl, rfl, rfl⟩
    | @cons e b n h hA _ ih =>
      refine .inr ?_
      rcases ih with ⟨f, h1, h2, h3, h4⟩ | ⟨e', h1, f, h2, h3, h4, h5, h6, es, h7, h8⟩
      · exact ⟨e, h, f, h1, rfl, hA, by rw [h2]; exact hA, h3, [], h2.symm, by show (0 : Int) = _; omega⟩
      · exact ⟨e, h, f, h2, rfl, hA, h5, h6, e' :: es, ⟨mem_Ei.mpr ⟨h1, by rw [h3]; exact hA, h4⟩, h3, h7⟩, by rw [tot_cons]; omega⟩
  · rintro (⟨e, h, rfl, rfl, rfl⟩ | ⟨e, h, f, h2, rfl, h4, h5, rfl, es, h7, h8⟩)
    · exact .one h
    · have key : ∀ (es : List (α × α × Int)) (x : α), IsW (Ei E A) x es f.1 → WI E (· ∈ A) x f.2.1 (tot es + f.2.2) := fun es => by
        induction es with
        | nil =>
          intro x hx
          have hx : x = f.1 := hx
          subst hx
          rw [show tot [] + f.2.2 = f.2.2 from Int.zero_add _]
          exact .one h2
        | cons g es ih =>
          intro x hx
          obtain ⟨q1, rfl, q3⟩ := hx
          have q := mem_Ei.mp q1
          rw [tot_cons, Int.add_assoc]
          exact .cons q.1 q.2.2 (ih _ q3)
      have := WI.cons h h4 (key es _ h7)
      rwa [show e.2.2 + (tot es + f.2.2) = n by omega] at this
theorem Gr.fitI {V : List α} {N : Nat} {M P B : Int} (g : Gr E V N M P) {A : List α} {a b : α} (hB : S0 N M + 169 + 2 * M ≤ B) (hP : M < S0 N M + 169) : Fit (wB (WI E (· ∈ A) a b)) P B := by
  have hp := g.p0
  have gi : Gr (Ei E A) V N M P := g.sub fun e he => (mem_Ei.mp he).1
  have step : ∀ (n d : Int), (∀ (x y : α) (k : Int), x ∈ V → n - 2 * M ≤ k → k ≤ n + 2 * M → Wr (Ei E A) x y k → Wr (Ei E A) x y (k + d)) → (M < n ∨ n < -M) → WI E (· ∈ A) a b n → WI E (· ∈ A) a b (n + d) := fun n d hs hn h => by
    rcases WI.split.mp h with ⟨e, h1, h2, h3, h4⟩ | ⟨e, h, f, h2, h3, h4, h5, h6, h7⟩
    · have := g.m1 e h1
      omega
    · have m1 := g.m1 e h
      have m2 := g.m1 f h2
      refine WI.split.mpr (.inr ⟨e, h, f, h2, h3, h4, h5, h6, ?_⟩)
      have := hs _ _ (n - e.2.2 - f.2.2) (g.tgt e h) (by omega) (by omega) h7
      rwa [show n + d - e.2.2 - f.2.2 = n - e.2.2 - f.2.2 + d by omega]
  have m0 := g.m0
  refine fit_of (fun n hn h => step n P (fun x y k hx h1 _ q => gi.more hx (by omega) q) (by omega) h) (fun n hn h => ?_) (fun n hn h => ?_) (fun n hn h => ?_)
  · have := step (n + P) (-P) (fun x y k hx h1 _ q => by
      have := gi.less hx (by omega) q
      rwa [show k - P = k + -P by omega] at this) (by omega) h
    rwa [show n + P + -P = n by omega] at this
  · have := step n (-P) (fun x y k hx _ h1 q => by
      have := gi.more' hx (by omega) q
      rwa [show k - P = k + -P by omega] at this) (by omega) h
    rwa [show n - P = n + -P by omega]
  · have := step (n - P) P (fun x y k hx _ h1 q => gi.less' hx (by omega) q) (by omega) h
    rwa [show n - P + P = n by omega] at this
theorem ring_le {V : List α} {N : Nat} {M P : Int} (g : Gr E V N M P) {y : α} {r : List (α × α × Int)} (h : Ring E y r) : tot r ≤ M * (N : Int) := by
  have h1 := (tot_le g (mem_E h.w)).2
  have h2 := h.nd.length_le_of_subset (l₂ := V) fun x hx => by
    obtain ⟨e, he, rfl⟩ := List.mem_map.mp hx
    exact g.src e (mem_E h.w e he)
  unfold srcs at h2
  rw [List.length_map] at h2
  have := g.n1
  have : M * (r.length : Int) ≤ M * (N : Int) := Int.mul_le_mul_of_nonneg_left (by omega) g.m0
  omega
/-- if there is a day above 0, there is a near one -/
theorem Gr.near {V : List α} {N : Nat} {M P S : Int} (g : Gr E V N M P) {a b : α} (ha : a ∈ V) (c : Int) (hS : S0 N M + c ≤ S) (hN : M * (N : Int) ≤ S) {n : Int} (hn : 0 < n + c) (h : Wr E a b n) : ∃ k, 0 < k + c ∧ k + c ≤ S ∧ Wr E a b k := by
  obtain ⟨es, h1, rfl⟩ := h
  obtain ⟨s, R, l, s1, s2, e, _, hr, put⟩ := g.skel ha h1
  by_cases q : 0 < s + c
  · obtain ⟨es', q1, q2, _⟩ := put [] (fun r hr => by cases hr)
    exact ⟨tot es', by rw [q2]; simpa using q, by rw [q2]; simp; omega, es', q1, rfl⟩
  · obtain ⟨r, hr1, hr2⟩ := sum_pos (L := R) (by omega)
    obtain ⟨y, ry⟩ := hr r hr1
    have hle := ring_le g ry
    have d0 : 0 ≤ -(s + c) / tot r := Int.ediv_nonneg (by omega) (by omega)
    have d1 := Int.mul_ediv_add_emod (-(s + c)) (tot r)
    have d2 := Int.emod_nonneg (-(s + c)) (by omega : tot r ≠ 0)
    have d3 := Int.emod_lt_of_pos (-(s + c)) hr2
    obtain ⟨es', q1, q2, _⟩ := put (List.replicate ((-(s + c) / tot r).toNat + 1) r) fun x hx => by
      rw [(List.mem_replicate.mp hx).2]
      exact hr1
    have e3 : (((-(s + c) / tot r).toNat + 1 : Nat) : Int) * tot r = tot r * (-(s + c) / tot r) + tot r := by
      rw [show (((-(s + c) / tot r).toNat + 1 : Nat) : Int) = -(s + c) / tot r + 1 by omega, Int.add_mul, Int.one_mul, Int.mul_comm]
    rw [sum_rep, e3] at q2
    exact ⟨tot es', by omega, by omega, es', q1, rfl⟩
theorem Gr.nearI {V : List α} {N : Nat} {M P S : Int} (g : Gr E V N M P) {A : List α} {a b : α} (hS : S0 N M + 2 * M ≤ S) (hN : M * (N : Int) ≤ S) (hM : M ≤ S) {n : Int} (hn : 0 < n) (h : WI E (· ∈ A) a b n) : ∃ k, 0 < k ∧ k ≤ S ∧ WI E (· ∈ A) a b k := by
  rcases WI.split.mp h with ⟨e, h1, h2, h3, h4⟩ | ⟨e, h, f, h2, h3, h4, h5, h6, h7⟩
  · have := g.m1 e h1
    exact ⟨n, hn, by omega, WI.split.mpr (.inl ⟨e, h1, h2, h3, h4⟩)⟩
  · have m1 := g.m1 e h
    have m2 := g.m1 f h2
    have gi : Gr (Ei E A) V N M P := g.sub fun e he => (mem_Ei.mp he).1
    obtain ⟨k, k1, k2, k3⟩ := gi.near (g.tgt e h) (e.2.2 + f.2.2) (S := S) (by omega) hN (by omega) h7
    exact ⟨k + e.2.2 + f.2.2, by omega, by omega, WI.split.mpr (.inr ⟨e, h, f, h2, h3, h4, h5, h6, by rwa [show k + e.2.2 + f.2.2 - e.2.2 - f.2.2 = k by omega]⟩)⟩
end
end Wk
end
section
set_option Elab.async false
set_option linter.all false
set_option maxRecDepth 100000
set_option autoImplicit false
/-! the reaches of a map, stage by stage -/
namespace Od
open PySem Day Wk
abbrev Ways := List (Str × Str × Int)
/-- the sums of rows of steps that go through told chains -/
noncomputable def fI (E : Ways) (A : List Str) (a b : Str) : Int → Bool := wB (WI E (· ∈ A) a b)
theorem fI_iff {E : Ways} {A : List Str} {a b : Str} {n : Int} : fI E A a b n = true ↔ WI E (· ∈ A) a b n := wB_iff
/-- the reach -/
noncomputable def fR (E : Ways) (a b : Str) : Int → Bool := wB (Wr E a b)
theorem fR_iff {E : Ways} {a b : Str} {n : Int} : fR E a b n = true ↔ Wr E a b n := wB_iff
structure Good (E : Ways) (P B S : Int) : Prop where
  ok : ∀ A a b, Ok (fI E A a b) P B
  up : ∀ A a b d, 0 < d → fI E A a b d = true → ∃ e, 0 < e ∧ e ≤ S ∧ fI E A a b e = true
  dn : ∀ A a b d, d < 0 → fI E A a b d = true → ∃ e, -S ≤ e ∧ e < 0 ∧ fI E A a b e = true
  p1 : P ≤ 2000
  b1 : 6 * B + 5 * P ≤ 90000
  s0 : 1 ≤ S
  s1 : S ≤ 1000
  f1 : S * (B + 1 + S + S * P) ≤ 900000
theorem cons_mem {A : List Str} {m x : Str} : (x ∈ A ∨ x = m) ↔ x ∈ m :: A := by
  rw [List.mem_cons]
  exact Or.comm
theorem WI_cons {E : Ways} {A : List Str} {m a b : Str} {n : Int} : WI E (fun x => x ∈ A ∨ x = m) a b n ↔ WI E (· ∈ m :: A) a b n :=
  ⟨fun h => h.mono fun x hx => cons_mem.mp hx, fun h => h.mono fun x hx => cons_mem.mpr hx⟩
/-- one chain more -/
theorem fI_step {E : Ways} {A : List Str} {m a b : Str} {n : Int} : fI E (m :: A) a b n = true ↔ fI E A a b n = true ∨ ∃ x s y, fI E A a m x = true ∧ Star (fun k => fI E A m m k = true) s ∧ fI E A m b y = true ∧ n = x + s + y := by
  have es : (fun k => fI E A m m k = true) = WI E (· ∈ A) m m := funext fun k => propext fI_iff
  rw [fI_iff, ← WI_cons, WI.kleene, es]
  simp only [fI_iff]
/-- what rings give -/
theorem star_ring {E : Ways} {A : List Str} {m : Str} {s : Int} : Star (fun k => fI E A m m k = true) s ↔ s = 0 ∨ fI E (m :: A) m m s = true := by
  have es : (fun k => fI E A m m k = true) = WI E (· ∈ A) m m := funext fun k => propext fI_iff
  rw [es, fI_iff, ← WI_cons]
  constructor
  · intro h
    induction h with
    | zero => exact .inl rfl
    | @add n y _ hy ih =>
      have hy' := hy.mono (A' := fun x => x ∈ A ∨ x = m) fun _ => .inl
      rcases ih with rfl | ih
      · rw [Int.zero_add]; exact .inr hy'
      · exact .inr (ih.app (.inr rfl) hy')
  · rintro (rfl | h)
    · exact .zero
    · rcases WI.kleene.mp h with h | ⟨x, s, y, h1, h2, h3, rfl⟩
      · have := (Star.zero (Y := WI E (· ∈ A) m m)).add h
        rwa [Int.zero_add] at this
      · rw [show x + s + y = s + x + y by omega]
        exact (h2.add h1).add h3
theorem Good.star {E : Ways} {P B S : Int} (g : Good E P B S) {A : List Str} {m : Str} {h : Int → Bool} (hh : ∀ n, h n = true ↔ Star (fun k => fI E A m m k = true) n) : Ok h P (B + 1) := by
  have o := g.ok (m :: A) m m
  have p0 := o.c0
  have b0 := o.b0
  have := g.b1
  refine ⟨o.c0, o.c1, by omega, by omega, fun n hn => ?_, fun n hn => ?_⟩
  · rw [Bool.eq_iff_iff, hh, hh, star_ring, star_ring, o.fit.1 n (by omega)]
    constructor
    · rintro (h | h)
      · omega
      · exact .inr h
    · rintro (h | h)
      · omega
      · exact .inr h
  · rw [Bool.eq_iff_iff, hh, hh, star_ring, star_ring, o.fit.2 n (by omega)]
    constructor
    · rintro (h | h)
      · omega
      · exact .inr h
    · rintro (h | h)
      · omega
      · exact .inr h
theorem fR_of {E : Ways} {A : List Str} (hA : ∀ e ∈ E, e.2.1 ∈ A) {a b : Str} {n : Int} : fR E a b n = true ↔ fI E A a b n = true ∨ (a = b ∧ n = 0) := by
  rw [fR_iff, fI_iff]
  exact Wr.iff (A := (· ∈ A)) hA
theorem Good.okR {E : Ways} {P B S : Int} (g : Good E P B S) {A : List Str} (hA : ∀ e ∈ E, e.2.1 ∈ A) (a b : Str) : Ok (fR E a b) P (B + 1) := by
  have o := g.ok A a b
  have p0 := o.c0
  have b0 := o.b0
  have := g.b1
  refine ⟨o.c0, o.c1, by omega, by omega, fun n hn => ?_, fun n hn => ?_⟩
  · rw [Bool.eq_iff_iff, fR_of hA, fR_of hA, o.fit.1 n (by omega)]
    constructor
    · rintro (h | h)
      · exact .inl h
      · omega
    · rintro (h | h)
      · exact .inl h
      · omega
  · rw [Bool.eq_iff_iff, fR_of hA, fR_of hA, o.fit.2 n (by omega)]
    constructor
    · rintro (h | h)
      · exact .inl h
      · omega
    · rintro (h | h)
      · exact .inl h
      · omega
theorem Good.of {E : Ways} {V : List Str} {N : Nat} {M P B S : Int} (g : Gr E V N M P) (hB : S0 N M + 169 + 2 * M ≤ B) (hP : M < S0 N M + 169) (hS : S0 N M + 2 * M ≤ S) (hN : M * (N : Int) ≤ S) (hM : M ≤ S) (h0 : 0 ≤ S0 N M)
    (p1 : P ≤ 2000) (b1 : 6 * B + 5 * P ≤ 90000) (s0 : 1 ≤ S) (s1 : S ≤ 1000) (f1 : S * (B + 1 + S + S * P) ≤ 900000) : Good E P B S := by
  have p0 := g.p0
  have m0 := g.m0
  have up : ∀ {E : Ways}, Gr E V N M P → ∀ A a b d, 0 < d → fI E A a b d = true → ∃ e, 0 < e ∧ e ≤ S ∧ fI E A a b e = true := fun {E} g A a b d hd h => by
    obtain ⟨k, k1, k2, k3⟩ := g.nearI hS hN hM hd (fI_iff.mp h)
    exact ⟨k, k1, k2, fI_iff.mpr k3⟩
  have ngI : ∀ {E : Ways} {A : List Str} {a b : Str} {n : Int}, WI E (· ∈ A) a b n → WI (E.map ng) (· ∈ A) a b (-n) := fun {E A a b n} h => by
    induction h with
    | @one e h => exact .one (e := ng e) (List.mem_map.mpr ⟨e, h, rfl⟩)
    | @cons e b n h hA _ ih =>
      have := WI.cons (e := ng e) (List.mem_map.mpr ⟨e, h, rfl⟩) hA ih
      rwa [show -(e.2.2 + n) = (ng e).2.2 + -n by show _ = -e.2.2 + -n; omega]
  refine ⟨fun A a b => ⟨p0, by omega, by omega, by omega, g.fitI hB hP⟩, up g, fun A a b d hd h => ?_, p1, b1, s0, s1, f1⟩
  obtain ⟨e, e0, e1, e2⟩ := up g.ng A a b (-d) (by omega) (fI_iff.mpr (ngI (fI_iff.mp h)))
  refine ⟨-e, by omega, by omega, fI_iff.mpr ?_⟩
  have := ngI (fI_iff.mp e2)
  rwa [map_ng_ng] at this
end Od
end
section
set_option Elab.async false
set_option linter.all false
namespace Od
open PySem L2
def top (i : Nat) : Stmt := PySem.Challenge.pw_onewaydays_k14_whole_maps_turned.main.body.getD i (.Pass ⟨0, 0, 0, 0⟩)
end Od
end
section
set_option Elab.async false
set_option linter.all false
set_option maxRecDepth 100000
set_option maxHeartbeats 2000000
namespace Od
open PySem PySem.Spec PyProof.Rows L2 C8 Day
abbrev s_divisor_of : Stmt := top 17
abbrev N_divisor_of : List Str := ["one", "two"]
abbrev P_divisor_of : List Str := ["one", "two"]
theorem sc_divisor_of : FnScope N_divisor_of P_divisor_of (C8.fnScope s_divisor_of) := fnScope_by (by decide +kernel)
abbrev s_multiple_of : Stmt := top 18
abbrev N_multiple_of : List Str := ["one", "two"]
abbrev P_multiple_of : List Str := ["one", "two"]
theorem sc_multiple_of : FnScope N_multiple_of P_multiple_of (C8.fnScope s_multiple_of) := fnScope_by (by decide +kernel)
abbrev s_root_of : Stmt := top 19
abbrev N_root_of : List Str := ["row", "size"]
abbrev P_root_of : List Str := ["row"]
theorem sc_root_of : FnScope N_root_of P_root_of (C8.fnScope s_root_of) := fnScope_by (by decide +kernel)
abbrev s_turned_row : Stmt := top 20
abbrev N_turned_row : List Str := ["row", "many", "at"]
abbrev P_turned_row : List Str := ["row", "many"]
theorem sc_turned_row : FnScope N_turned_row P_turned_row (C8.fnScope s_turned_row) := fnScope_by (by decide +kernel)
abbrev s_least_form : Stmt := top 21
abbrev N_least_form : List Str := ["left", "low", "middle", "right", "many"]
abbrev P_least_form : List Str := ["left", "low", "middle", "right"]
theorem sc_least_form : FnScope N_least_form P_least_form (C8.fnScope s_least_form) := fnScope_by (by decide +kernel)
abbrev s_bare_form : Stmt := top 22
abbrev N_bare_form : List Str := ["left", "low", "right", "row", "many"]
abbrev P_bare_form : List Str := ["left", "low", "right"]
theorem sc_bare_form : FnScope N_bare_form P_bare_form (C8.fnScope s_bare_form) := fnScope_by (by decide +kernel)
section
variable {P : Program} {w : World} {K : PySem.W.Frag} {mg : Str → Option Value} {base : Heap}
/-! ### divisor_of -/
def gcdI (a b : Int) : Int := ((Nat.gcd a.natAbs b.natAbs : Nat) : Int)
def sp_divisor_of : Sp := fun vs H Q _ => ∃ a b : Int, vs = [.int a, .int b] ∧ Q (.int (gcdI a b)) H
theorem abs_nat (a : Int) : (if a < 0 then -a else a) = (a.natAbs : Int) := by
  by_cases h : a < 0
  · rw [if_pos h]; omega
  · rw [if_neg h]; omega
theorem c_divisor_of (T : Txt K mg) (F : DefOf K mg "divisor_of" s_divisor_of P_divisor_of) : Cal P w K mg base 1 "divisor_of" sp_divisor_of [] := by
  obtain ⟨f, fd, F, B⟩ := F
  refine cal0 F B .nil sc_divisor_of (fun vs H Q E h => by obtain ⟨a, b, rfl, _⟩ := h; rfl) (fun cdv A outer s H vs Q E hr h => ?_)
  obtain ⟨a, b, rfl, q⟩ := h
  have nd := sc_divisor_of.nd
  refine ⟨_, (pss_cons (ps_par (i := 0) (j := 1) (by rfl) nd rfl rfl (by decide) rfl rfl (pa_cons (pe_callB call_abs (by rfl) T.b_abs (by decide +kernel) (pa_cons (pv 0) pa_nil)) (pa_cons (pe_callB call_abs (by rfl) T.b_abs (by decide +kernel) (pa_cons (pv 1) pa_nil)) pa_nil)) (by rfl))
      (C8.pss_cut (ps_while PassesOwn.never (pt_cmpR op_gt (pv 1) pe_int (nomark _)) (pss_one (ps_par (i := 0) (j := 1) (by rfl) nd rfl rfl (by decide) rfl rfl (pa_cons (pv 1) (pa_cons (pe_op op_mod (pv 0) (pv 1)) pa_nil)) (by rfl))))
      (pss_one (ps_ret (pv 0))))), ?_⟩
  refine ⟨_, rfl, _, rfl, _, rfl, _, rfl, _, _, rfl, ?_⟩
  rw [abs_nat, abs_nat]
  refine ⟨fun σ' H' => H' = H ∧ ∃ y, σ' = [some (V.int (gcdI a b)), y], ?_, fun σ' H' ⟨e1, y, e2⟩ => by subst e1; subst e2; exact ⟨_, rfl, q⟩⟩
  refine ⟨fun m σ' H' => ∃ x y : Nat, y = m ∧ σ' = [some (V.int (x : Int)), some (V.int (y : Int))] ∧ H' = H ∧ Nat.gcd x y = Nat.gcd a.natAbs b.natAbs, ⟨_, a.natAbs, b.natAbs, rfl, rfl, rfl, rfl⟩, ?_⟩
  rintro _ σ' H' ⟨x, y, rfl, rfl, rfl, e⟩
  refine ⟨_, rfl, _, _, rfl, rfl, _, rfl, ?_⟩
  refine ite2 (fun c => ?_) (fun c => ?_)
  · have hy : 0 < y := by have := of_decide_eq_true c; omega
    refine ⟨fun σ2 H2 => ∃ x' y' : Nat, y' < y ∧ σ2 = [some (V.int (x' : Int)), some (V.int (y' : Int))] ∧ H2 = H' ∧ Nat.gcd x' y' = Nat.gcd a.natAbs b.natAbs, fun σ2 H2 ⟨x', y', l, z1, z2, z3⟩ => ⟨y', l, x', y', rfl, z1, z2, z3⟩, ?_⟩
    refine ⟨_, rfl, _, rfl, _, rfl, _, _, rfl, rfl, (by show (0 : Int) < (y : Int); omega), _, _, rfl, ?_⟩
    refine ⟨y, x % y, Nat.mod_lt _ hy, by rw [Int.natCast_emod] <;> rfl, rfl, ?_⟩
    rw [← e, Nat.gcd_comm x y, Nat.gcd_rec y x]
    exact Nat.gcd_comm _ _
  · have hy : y = 0 := by
      have : ¬ (0 : Int) < (y : Int) := fun z => c (decide_eq_true z)
      omega
    subst hy
    rw [Nat.gcd_zero_right] at e
    refine ⟨rfl, some (V.int ((0 : Nat) : Int)), ?_⟩
    unfold gcdI
    rw [← e]
/-! ### multiple_of -/
def sp_multiple_of : Sp := fun vs H Q _ => ∃ a b : Nat, vs = [.int (a : Int), .int (b : Int)] ∧ 0 < a ∧ 0 < b ∧ a < 1073741824 ∧ b < 1073741824 ∧ Q (.int ((Nat.lcm a b : Nat) : Int)) H
theorem c_multiple_of (T : Txt K mg) (F : DefOf K mg "multiple_of" s_multiple_of P_multiple_of) (C_divisor_of : Cal P w K mg base 1 "divisor_of" sp_divisor_of []) : Cal P w K mg base 2 "multiple_of" sp_multiple_of [] := by
  obtain ⟨f, fd, F, B⟩ := F
  refine cal0 F B .nil sc_multiple_of (fun vs H Q E h => by obtain ⟨a, b, rfl, _⟩ := h; rfl) (fun cdv A outer s H vs Q E hr h => ?_)
  obtain ⟨a, b, rfl, ha, hb, la, lb, q⟩ := h
  have nd := sc_multiple_of.nd
  refine ⟨_, (pss_one (ps_ret (pe_op op_fdiv (pe_op op_mul (pv 0) (pv 1)) (pe_c C_divisor_of hr (by decide) rfl (pa_cons (pv 0) (pa_cons (pv 1) pa_nil)))))), ?_⟩
  have hg : 0 < Nat.gcd a b := Nat.gcd_pos_of_pos_left _ ha
  have hgl : Nat.gcd a b ≤ a := Nat.le_of_dvd ha (Nat.gcd_dvd_left _ _)
  refine ⟨_, rfl, _, rfl, _, _, rfl, rfl, ?_, _, rfl, _, rfl, (a : Int), (b : Int), rfl, _, _, rfl, rfl, ?_, ?_⟩
  · exact .inl ⟨by omega, by omega⟩
  · unfold gcdI
    rw [Int.natAbs_natCast, Int.natAbs_natCast]
    exact ⟨by omega, by omega⟩
  · have e : (a : Int) * (b : Int) / gcdI a b = ((Nat.lcm a b : Nat) : Int) := by
      unfold gcdI Nat.lcm
      rw [Int.natAbs_natCast, Int.natAbs_natCast, Int.natCast_ediv, Int.natCast_mul]
    show Q (.int ((a : Int) * (b : Int) / gcdI a b)) H
    rw [e]
    exact q
/-! ### root_of -/
def sp_root_of : Sp := fun vs H Q _ => ∃ l : List Bool, vs = [.str (rowS l)] ∧ l ≠ [] ∧ l.length ≤ 4194304 ∧ ∀ s, IsRoot l s → Q (.str (rowS s)) H
theorem root_test (l : List Bool) (t : Nat) (h0 : 1 ≤ t) (ht : t < l.length) : decide (V.int ((l.length : Int) % (t : Int)) = V.int 0) = decide (l.length % t = 0) := by
  by_cases c : l.length % t = 0
  · rw [decide_eq_true c, decide_eq_true]
    rw [← Int.natCast_emod, c]; rfl
  · rw [decide_eq_false c, decide_eq_false]
    intro e
    injection e with e
    rw [← Int.natCast_emod] at e
    exact c (by omega)
theorem c_root_of (T : Txt K mg) (F : DefOf K mg "root_of" s_root_of P_root_of) : Cal P w K mg base 1 "root_of" sp_root_of [] := by
  obtain ⟨f, fd, F, B⟩ := F
  refine cal0 F B .nil sc_root_of (fun vs H Q E h => by obtain ⟨a, rfl, _⟩ := h; rfl) (fun cdv A outer s H vs Q E hr h => ?_)
  obtain ⟨l, rfl, l0, ll, q⟩ := h
  have nd := sc_root_of.nd
  have hsz : (rowS l).length ≤ sizeLine := by rw [rowS_len]; have : sizeLine = 16777216 := sizeLine_eq; omega
  refine ⟨_, (C8.pss_cut (ps_for PassesOwn.never rfl (pi_range2 (by rfl) T.b_range (pa_cons pe_int (pa_cons (pe_callB call_len_str (by rfl) T.b_len (by decide +kernel) (pa_cons (pv 0) pa_nil)) pa_nil))) (pg_name (i := 1) nd rfl (Or.inl rfl)) (pss_one (ps_if (PW.pt (pw_and (pt_cmpR op_eq (pe_op op_mod (pe_callB call_len_str (by rfl) T.b_len (by decide +kernel) (pa_cons (pv 0) pa_nil)) (pv 1)) pe_int (nomark _)) (pw_and1 (pt_cmpR op_eq (pe_op op_mulS (pe_slice sl_str (pv 0) po_none (po_some (pv 1))) (pe_op op_fdiv (pe_callB call_len_str (by rfl) T.b_len (by decide +kernel) (pa_cons (pv 0) pa_nil)) (pv 1))) (pv 0) (nomark _))))) (pss_one (ps_ret (pe_slice sl_str (pv 0) po_none (po_some (pv 1))))) pss_nil)))
      (pss_one (ps_ret (pv 0)))), ?_⟩
  have l1 : 0 < l.length := prim_len l0
  refine ⟨fun σ' H' => H' = H ∧ (∃ x, σ' = [some (.str (rowS l)), x]) ∧ ∀ t, 1 ≤ t → t < l.length → ¬ Root l t, ?_, fun σ' H' ⟨e1, ⟨x, e2⟩, hb⟩ => by subst e1; subst e2; exact ⟨_, rfl, q l (isRoot_self l0 hb)⟩⟩
  refine ⟨_, rfl, _, rfl, hsz, _, _, rfl, ?_, ?_⟩
  · rw [rowS_len]; exact ⟨by decide, by decide, by omega, by omega⟩
  rw [rowS_len]
  have en : ((l.length : Int) - 1).toNat = l.length - 1 := by omega
  rw [en]
  refine for_range (fun i σ' H' => H' = H ∧ (∃ x, σ' = [some (.str (rowS l)), x]) ∧ ∀ t, 1 ≤ t → t < 1 + i → ¬ Root l t) ⟨rfl, ⟨_, rfl⟩, fun t h1 h2 => by omega⟩ ?_ ?_
  · rintro i σ' H' hi ⟨rfl, ⟨x, rfl⟩, hb⟩
    have et : (1 : Int) + (i : Int) = ((1 + i : Nat) : Int) := by omega
    rw [et]
    have ht : 1 + i < l.length := by omega
    have cp : ((1 + i : Nat) : Int) > 0 := by omega
    refine ⟨_, rfl, _, rfl, hsz, _, rfl, _, _, rfl, rfl, cp, rfl, _, rfl, ?_⟩
    rw [rowS_len]
    show if decide (V.int ((l.length : Int) % ((1 + i : Nat) : Int)) = V.int 0) = true then _ else _
    rw [root_test l _ (by omega) ht]
    refine ite2 (fun c => ?_) (fun c => ?_)
    · have hm : l.length % (1 + i) = 0 := of_decide_eq_true c
      have hq : 1 ≤ l.length / (1 + i) := (Nat.le_div_iff_mul_le (by omega)).mpr (by omega)
      have hq2 : l.length / (1 + i) ≤ l.length := Nat.div_le_self _ _
      have hm2 : (1 + i) * (l.length / (1 + i)) = l.length := by
        have := Nat.div_add_mod l.length (1 + i); omega
      have cd : CDiv (l.length : Int) ((1 + i : Nat) : Int) := ⟨by omega, by omega⟩
      refine ⟨_, rfl, _, rfl, _, rfl, _, rfl, hsz, _, rfl, _, rfl, hsz, _, rfl, _, _, rfl, rfl, by rw [rowS_len]; exact cd, _, l.length / (1 + i), rfl, ?_, ?_, ?_, _, rfl, rfl, _, rfl, ?_⟩
      · rw [rowS_len, Int.natCast_ediv]
      · rw [rowS_to l _ (by omega), rowS_len, List.length_take, Nat.min_eq_left (by omega), hm2]
        omega
      · omega
      · rw [rowS_to l _ (by omega), rowS_mul, rowS_dec]
        refine ite2 (fun c2 => ?_) (fun c2 => ?_)
        · have hr : Root l (1 + i) := ⟨hm, of_decide_eq_true c2⟩
          refine ⟨_, rfl, _, rfl, _, rfl, _, rfl, hsz, ?_⟩
          rw [rowS_to l _ (by omega)]
          exact q _ (isRoot_take (by omega) ht hr fun t h1 h2 => hb t h1 h2)
        · refine ⟨rfl, ⟨_, rfl⟩, fun t h1 h2 => ?_⟩
          by_cases e : t = 1 + i
          · subst e
            exact fun r => c2 (decide_eq_true r.2)
          · exact hb t h1 (by omega)
    · refine ⟨rfl, ⟨_, rfl⟩, fun t h1 h2 => ?_⟩
      by_cases e : t = 1 + i
      · subst e
        exact fun r => c (decide_eq_true r.1)
      · exact hb t h1 (by omega)
  · rintro σ' H' ⟨rfl, ⟨x, rfl⟩, hb⟩
    exact ⟨rfl, ⟨_, rfl⟩, fun t h1 h2 => hb t h1 (by omega)⟩
/-! ### turned_row -/
def sp_turned_row : Sp := fun vs H Q _ => ∃ (l : List Bool) (k : Int), vs = [.str (rowS l), .int k] ∧ l ≠ [] ∧ l.length ≤ 4194304 ∧ Q (.str (rowS (turn l k))) H
theorem c_turned_row (T : Txt K mg) (F : DefOf K mg "turned_row" s_turned_row P_turned_row) : Cal P w K mg base 1 "turned_row" sp_turned_row [] := by
  obtain ⟨f, fd, F, B⟩ := F
  refine cal0 F B .nil sc_turned_row (fun vs H Q E h => by obtain ⟨a, b, rfl, _⟩ := h; rfl) (fun cdv A outer s H vs Q E hr h => ?_)
  obtain ⟨l, k, rfl, l0, ll, q⟩ := h
  have nd := sc_turned_row.nd
  have hsz := szl ll
  refine ⟨_, (pss_cons (ps_set (i := 2) nd rfl (Or.inl rfl) (pe_op op_mod (pv 1) (pe_callB call_len_str (by rfl) T.b_len (by decide +kernel) (pa_cons (pv 0) pa_nil))))
      (pss_one (ps_ret (pe_op op_add_str (pe_slice sl_str (pv 0) (po_some (pv 2)) po_none) (pe_slice sl_str (pv 0) po_none (po_some (pv 2))))))), ?_⟩
  refine ⟨_, rfl, _, rfl, _, rfl, hsz, _, _, rfl, rfl, posl l0, ?_⟩
  rw [rowS_len]
  have l1 := prim_len l0
  have hk : k % (l.length : Int) = ((k % (l.length : Int)).toNat : Int) := by have := Int.emod_nonneg k (show (l.length : Int) ≠ 0 by omega); omega
  have hk2 : (k % (l.length : Int)).toNat ≤ l.length := by have := Int.emod_lt_of_pos k (show (0 : Int) < (l.length : Int) by omega); omega
  refine ⟨_, rfl, _, rfl, _, rfl, _, rfl, hsz, _, rfl, _, rfl, _, rfl, _, rfl, hsz, _, _, rfl, rfl, ?_, ?_⟩
  · rw [hk, rowS_from l _ hk2, rowS_to l _ hk2, rowS_len, rowS_len, List.length_drop, List.length_take]
    have : sizeLine = 16777216 := sizeLine_eq
    omega
  · have e : cutS (rowS l) (some (k % (l.length : Int))) none ++ cutS (rowS l) none (some (k % (l.length : Int))) = rowS (turn l k) := by
      rw [hk, rowS_from l _ hk2, rowS_to l _ hk2, rowS_cat]
      rfl
    show Q (.str (cutS (rowS l) (some (k % (l.length : Int))) none ++ cutS (rowS l) none (some (k % (l.length : Int))))) H
    rw [e]
    exact q
/-! ### bare_form -/
structure Sz (F : Frm) : Prop where
  l : F.l.length ≤ 4194304
  m : F.m.length ≤ 4194304
  r : F.r.length ≤ 4194304
def frmV (F : Frm) : List V := [.str (rowS F.l), .int F.low, .str (rowS F.m), .str (rowS F.r)]
/-- a new tuple with the least form of what l, low, m, r tell -/
def toForm (l : List Bool) (low : Int) (m r : List Bool) (H : Hp) (Q : VK) : Prop := ∀ F, Least F → (∀ n, F.mem n = (Frm.mk l low m r).mem n) → Sz F → ∀ p H', Le H H' → H' p = some (.tup (frmV F)) → Q (.ref p) H'
def sp_bare_form : Sp := fun vs H Q _ => ∃ (l : List Bool) (low : Int) (r : List Bool), vs = [.str (rowS l), .int low, .str (rowS r)] ∧ l ≠ [] ∧ r ≠ [] ∧ Prim l ∧ Prim r ∧ l.length ≤ 4194304 ∧ r.length ≤ 4194304 ∧ toForm l low [] r H Q
theorem c_bare_form (T : Txt K mg) (F : DefOf K mg "bare_form" s_bare_form P_bare_form) (C_turned_row : Cal P w K mg base 1 "turned_row" sp_turned_row []) : Cal P w K mg base 2 "bare_form" sp_bare_form [] := by
  obtain ⟨f, fd, F, B⟩ := F
  refine cal0 F B .nil sc_bare_form (fun vs H Q E h => by obtain ⟨a, b, c, rfl, _⟩ := h; rfl) (fun cdv A outer s H vs Q E hr h => ?_)
  obtain ⟨l, low, r, rfl, l0, r0, pl, pr, ll, lr, q⟩ := h
  have nd := sc_bare_form.nd
  have hl := szl ll
  have hrr := szl lr
  refine ⟨_, (pss_cons (ps_if (pt_cmpR op_eq (pv 0) (pv 2) (nomark _)) (pss_cons (ps_set (i := 3) nd rfl (Or.inl rfl) (pe_c C_turned_row hr (by decide) rfl (pa_cons (pv 2) (pa_cons (pe_un un_neg (pv 1)) pa_nil))))
      (pss_one (ps_ret (pe_tup (pa_cons (pv 3) (pa_cons pe_int (pa_cons pe_str (pa_cons (pv 3) pa_nil)))))))) pss_nil)
      (pss_cons (ps_set (i := 4) nd rfl (Or.inl rfl) pe_int)
      (C8.pss_cut (ps_while PassesOwn.never (pt_cmpR op_eq (pe_ix ix_str (pv 0) (pe_op op_sub (pe_un un_neg pe_int) (pe_op op_mod (pv 4) (pe_callB call_len_str (by rfl) T.b_len (by decide +kernel) (pa_cons (pv 0) pa_nil)))) (fun _ _ => rfl)) (pe_ix ix_str (pv 2) (pe_op op_sub (pe_un un_neg pe_int) (pe_op op_mod (pv 4) (pe_callB call_len_str (by rfl) T.b_len (by decide +kernel) (pa_cons (pv 2) pa_nil)))) (fun _ _ => rfl)) (nomark _)) (pss_one (ps_aug (i := 4) nd rfl (Or.inl rfl) pe_int ip_add)))
      (pss_one (ps_ret (pe_tup (pa_cons (pe_c C_turned_row hr (by decide) rfl (pa_cons (pv 0) (pa_cons (pe_un un_neg (pv 4)) pa_nil))) (pa_cons (pe_op op_sub (pv 1) (pv 4)) (pa_cons pe_str (pa_cons (pe_c C_turned_row hr (by decide) rfl (pa_cons (pv 2) (pa_cons (pe_un un_neg (pv 4)) pa_nil))) pa_nil)))))))))), ?_⟩
  refine ⟨_, rfl, _, rfl, rfl, _, rfl, ?_⟩
  rw [rowS_dec]
  refine ite2 (fun c => ?_) (fun c => ?_)
  · have e : l = r := of_decide_eq_true c
    subst e
    refine ⟨_, rfl, _, rfl, _, rfl, _, _, rfl, l0, ll, ?_⟩
    refine ⟨_, rfl, _, rfl, ?_, ?_⟩
    · exact le_szl 4 (by decide)
    · intro p hp
      have L := least_bare_all low l0 pl
      refine q _ L.1 L.2 ⟨by show (turn l _).length ≤ _; rw [turn_len]; exact ll, Nat.zero_le _, by show (turn l _).length ≤ _; rw [turn_len]; exact ll⟩ p _ (Le.new hp) ?_
      rw [upd_self]
      show _ = some (HO.tup [.str (rowS (turn l (-low))), .int 0, .str (rowS []), .str (rowS (turn l (-low)))])
      rw [rowS_nil]
  · have ne : l ≠ r := fun e => c (decide_eq_true e)
    obtain ⟨i0, hi0, hd⟩ := bare_part l0 r0 pl pr ne
    refine ⟨fun σ' H' => ∃ k : Nat, σ' = [some (.str (rowS l)), some (.int low), some (.str (rowS r)), none, some (.int (k : Int))] ∧ H' = H ∧ (∀ i, i < k → cyc l (-1 - (i : Int)) = cyc r (-1 - (i : Int))) ∧ cyc l (-1 - (k : Int)) ≠ cyc r (-1 - (k : Int)), ?_, ?_⟩
    rotate_left
    · rintro σ' H' ⟨k, rfl, rfl, hb, hk⟩
      refine ⟨_, rfl, _, rfl, _, rfl, _, _, rfl, l0, ll, ?_⟩
      refine ⟨_, rfl, _, rfl, _, _, rfl, rfl, _, rfl, _, rfl, _, rfl, _, _, rfl, r0, lr, ?_, ?_⟩
      · exact le_szl 4 (by decide)
      · intro p hp
        have L := least_bare low l0 r0 pl pr hb hk
        refine q _ L.1 L.2 ⟨by show (turn l _).length ≤ _; rw [turn_len]; exact ll, Nat.zero_le _, by show (turn r _).length ≤ _; rw [turn_len]; exact lr⟩ p _ (Le.new hp) ?_
        rw [upd_self]
        show _ = some (HO.tup [.str (rowS (turn l (-(k : Int)))), .int (low - k), .str (rowS []), .str (rowS (turn r (-(k : Int))))])
        rw [rowS_nil]
    refine ⟨fun m σ' H' => ∃ k : Nat, m = i0 - k ∧ σ' = [some (.str (rowS l)), some (.int low), some (.str (rowS r)), none, some (.int (k : Int))] ∧ H' = H ∧ ∀ i, i < k → cyc l (-1 - (i : Int)) = cyc r (-1 - (i : Int)), ⟨_, 0, rfl, rfl, rfl, fun i hi => absurd hi (Nat.not_lt_zero _)⟩, ?_⟩
    rintro m σ' H' ⟨k, rfl, rfl, rfl, hb⟩
    refine ⟨_, rfl, _, rfl, _, rfl, _, rfl, _, rfl, hl, _, _, rfl, rfl, posl l0, _, _, rfl, rfl, _, _, _, rfl, rfl, hl, by rw [rowS_len]; exact rowS_back l0 _, _, rfl, _, rfl, _, rfl, _, rfl, _, rfl, hrr, _, _, rfl, rfl, posl r0, _, _, rfl, rfl, _, _, _, rfl, rfl, hrr, by rw [rowS_len]; exact rowS_back r0 _, rfl, _, rfl, ?_⟩
    rw [sgn_dec]
    refine ite2 (fun c => ?_) (fun c => ?_)
    · have hk : cyc l (-1 - (k : Int)) = cyc r (-1 - (k : Int)) := of_decide_eq_true c
      have hlt : k < i0 := by
        rcases Nat.lt_trichotomy k i0 with h | h | h
        · exact h
        · subst h; exact absurd hk hd
        · exact absurd (hb i0 h) hd
      refine ⟨fun σ2 H2 => ∃ k2 : Nat, k2 = k + 1 ∧ σ2 = [some (.str (rowS l)), some (.int low), some (.str (rowS r)), none, some (.int (k2 : Int))] ∧ H2 = H', fun σ2 H2 ⟨k2, e, z1, z2⟩ => ⟨i0 - k2, by omega, k2, rfl, z1, z2, fun i hi => by
        by_cases e2 : i = k
        · subst e2; exact hk
        · exact hb i (by omega)⟩, ?_⟩
      refine ⟨_, rfl, _, _, rfl, rfl, ?_⟩
      exact ⟨k + 1, rfl, rfl, rfl⟩
    · have hk : cyc l (-1 - (k : Int)) ≠ cyc r (-1 - (k : Int)) := fun e => c (decide_eq_true e)
      exact ⟨k, rfl, rfl, hb, hk⟩
/-! ### least_form -/
theorem mem_alike {l l' m r r' : List Bool} {low : Int} (hl : ∀ z, cyc l' z = cyc l z) (hr : ∀ z, cyc r' z = cyc r z) (n : Int) : (Frm.mk l' low m r').mem n = (Frm.mk l low m r).mem n := by
  unfold Frm.mem Frm.high
  simp only [hl, hr]
theorem _root_.Day.IsRoot.len {l s : List Bool} (h : IsRoot l s) (l0 : l ≠ []) : s.length ≤ l.length := by
  have h1 := prim_len l0
  have := h.pr (l.length : Int) (by omega) (fun z => by rw [h.eq, h.eq, cyc_per])
  omega
def sp_least_form : Sp := fun vs H Q _ => ∃ (l : List Bool) (low : Int) (m r : List Bool), vs = [.str (rowS l), .int low, .str (rowS m), .str (rowS r)] ∧ l ≠ [] ∧ r ≠ [] ∧ l.length ≤ 4194304 ∧ m.length ≤ 4194304 ∧ r.length ≤ 4194304 ∧ toForm l low m r H Q
theorem c_least_form (T : Txt K mg) (F : DefOf K mg "least_form" s_least_form P_least_form) (C_root_of : Cal P w K mg base 1 "root_of" sp_root_of []) (C_turned_row : Cal P w K mg base 1 "turned_row" sp_turned_row []) (C_bare_form : Cal P w K mg base 2 "bare_form" sp_bare_form []) : Cal P w K mg base 3 "least_form" sp_least_form [] := by
  obtain ⟨f, fd, F, B⟩ := F
  refine cal0 F B .nil sc_least_form (fun vs H Q E h => by obtain ⟨a, b, c, d, rfl, _⟩ := h; rfl) (fun cdv A outer s H vs Q E hr h => ?_)
  obtain ⟨l, low, m, r, rfl, l0, r0, ll, lm, lr, q⟩ := h
  have nd := sc_least_form.nd
  refine ⟨_, (pss_cons (ps_par (i := 0) (j := 3) (by rfl) nd rfl rfl (by decide) rfl rfl (pa_cons (pe_c C_root_of hr (by decide) rfl (pa_cons (pv 0) pa_nil)) (pa_cons (pe_c C_root_of hr (by decide) rfl (pa_cons (pv 3) pa_nil)) pa_nil)) (by rfl))
      (pss_cons (ps_set (i := 4) nd rfl (Or.inl rfl) pe_int)
      (C8.pss_cut (ps_while PassesOwn.never (PW.pt (pw_and (pt_cmpR op_lt (pv 4) (pe_callB call_len_str (by rfl) T.b_len (by decide +kernel) (pa_cons (pv 2) pa_nil)) (nomark _)) (pw_and1 (pt_cmpR op_eq (pe_ix ix_str (pv 2) (pe_op op_sub (pe_op op_sub (pe_callB call_len_str (by rfl) T.b_len (by decide +kernel) (pa_cons (pv 2) pa_nil)) pe_int) (pv 4)) (fun _ _ => rfl)) (pe_ix ix_str (pv 3) (pe_op op_sub (pe_un un_neg pe_int) (pe_op op_mod (pv 4) (pe_callB call_len_str (by rfl) T.b_len (by decide +kernel) (pa_cons (pv 3) pa_nil)))) (fun _ _ => rfl)) (nomark _))))) (pss_one (ps_aug (i := 4) nd rfl (Or.inl rfl) pe_int ip_add)))
      (pss_cons (ps_set (i := 2) nd rfl (Or.inl rfl) (pe_slice sl_str (pv 2) po_none (po_some (pe_op op_sub (pe_callB call_len_str (by rfl) T.b_len (by decide +kernel) (pa_cons (pv 2) pa_nil)) (pv 4)))))
      (pss_cons (ps_set (i := 3) nd rfl (Or.inl rfl) (pe_c C_turned_row hr (by decide) rfl (pa_cons (pv 3) (pa_cons (pe_un un_neg (pv 4)) pa_nil))))
      (pss_cons (ps_if (pt_cmpR op_eq (pv 2) pe_str (nomark _)) (pss_one (ps_ret (pe_c C_bare_form hr (by decide) rfl (pa_cons (pv 0) (pa_cons (pv 1) (pa_cons (pv 3) pa_nil)))))) pss_nil)
      (pss_cons (ps_set (i := 4) nd rfl (Or.inl rfl) pe_int)
      (C8.pss_cut (ps_while PassesOwn.never (PW.pt (pw_and (pt_cmpR op_lt (pv 4) (pe_callB call_len_str (by rfl) T.b_len (by decide +kernel) (pa_cons (pv 2) pa_nil)) (nomark _)) (pw_and1 (pt_cmpR op_eq (pe_ix ix_str (pv 2) (pv 4) (fun _ _ => rfl)) (pe_ix ix_str (pv 0) (pe_op op_mod (pv 4) (pe_callB call_len_str (by rfl) T.b_len (by decide +kernel) (pa_cons (pv 0) pa_nil))) (fun _ _ => rfl)) (nomark _))))) (pss_one (ps_aug (i := 4) nd rfl (Or.inl rfl) pe_int ip_add)))
      (pss_one (ps_ret (pe_tup (pa_cons (pe_c C_turned_row hr (by decide) rfl (pa_cons (pv 0) (pa_cons (pv 4) pa_nil))) (pa_cons (pe_op op_add (pv 1) (pv 4)) (pa_cons (pe_slice sl_str (pv 2) (po_some (pv 4)) po_none) (pa_cons (pv 3) pa_nil))))))))))))))), ?_⟩
  refine ⟨_, rfl, l, rfl, l0, ll, fun l' hl' => ?_⟩
  refine ⟨_, rfl, r, rfl, r0, lr, fun r' hr' => ?_⟩
  refine ⟨_, _, rfl, ?_⟩
  have sl := szl (Nat.le_trans (hl'.len l0) ll)
  have sm := szl lm
  have sr := szl (Nat.le_trans (hr'.len r0) lr)
  refine ⟨fun σ' H' => ∃ k : Nat, σ' = [some (.str (rowS l')), some (.int low), some (.str (rowS m)), some (.str (rowS r')), some (.int (k : Int))] ∧ H' = H ∧ k ≤ m.length ∧ (∀ i, i < k → m.getD (m.length - 1 - i) false = cyc r' (-1 - (i : Int))) ∧ (k = m.length ∨ m.getD (m.length - 1 - k) false ≠ cyc r' (-1 - (k : Int))), ?_, ?_⟩
  · refine ⟨fun n σ' H' => ∃ k : Nat, n = m.length - k ∧ σ' = [some (.str (rowS l')), some (.int low), some (.str (rowS m)), some (.str (rowS r')), some (.int (k : Int))] ∧ H' = H ∧ k ≤ m.length ∧ (∀ i, i < k → m.getD (m.length - 1 - i) false = cyc r' (-1 - (i : Int))), ⟨_, 0, rfl, rfl, rfl, Nat.zero_le _, fun i hi => absurd hi (Nat.not_lt_zero _)⟩, ?_⟩
    rintro n σ' H' ⟨k, rfl, rfl, rfl, hk, hb⟩
    refine ⟨_, rfl, _, rfl, _, rfl, sm, _, _, rfl, rfl, _, rfl, ?_⟩
    rw [rowS_len]
    refine ite2 (fun c => ?_) (fun c => ?_)
    · have hlt : k < m.length := by have := of_decide_eq_true c; omega
      have ei : ((m.length : Int) - 1 - (k : Int)) = ((m.length - 1 - k : Nat) : Int) := by omega
      refine ⟨_, rfl, _, rfl, _, rfl, sm, _, _, rfl, rfl, _, rfl, _, _, rfl, rfl, _, _, _, rfl, rfl, sm, by rw [rowS_len, ei]; exact rowS_at (by omega), _, rfl, _, rfl, _, rfl, _, rfl, _, rfl, sr, _, _, rfl, rfl, posl hr'.ne, _, _, rfl, rfl, _, _, _, rfl, rfl, sr, by rw [rowS_len]; exact rowS_back hr'.ne _, rfl, _, rfl, ?_⟩
      rw [sgn_dec]
      refine ite2 (fun c2 => ?_) (fun c2 => ?_)
      · have e2 := of_decide_eq_true c2
        refine ⟨fun σ2 H2 => ∃ k2 : Nat, k2 = k + 1 ∧ σ2 = [some (.str (rowS l')), some (.int low), some (.str (rowS m)), some (.str (rowS r')), some (.int (k2 : Int))] ∧ H2 = H', fun σ2 H2 ⟨k2, e, z1, z2⟩ => ⟨m.length - k2, by omega, k2, rfl, z1, z2, by omega, fun i hi => by
          by_cases e3 : i = k
          · subst e3; exact e2
          · exact hb i (by omega)⟩, ?_⟩
        exact ⟨_, rfl, _, _, rfl, rfl, k + 1, rfl, rfl, rfl⟩
      · exact ⟨k, rfl, rfl, hk, hb, .inr fun e => c2 (decide_eq_true e)⟩
    · have he : k = m.length := by
        have : ¬ ((k : Int) < (m.length : Int)) := fun h => c (decide_eq_true h)
        omega
      exact ⟨k, rfl, rfl, hk, hb, .inl he⟩
  rintro σ' H' ⟨k, rfl, rfl, hk, hb, he⟩
  have ek : ((m.length : Int) - (k : Int)) = ((m.length - k : Nat) : Int) := by omega
  refine ⟨_, rfl, _, rfl, _, rfl, sm, _, rfl, _, _, rfl, rfl, _, rfl, _, rfl, sm, ?_⟩
  rw [rowS_len]
  have ec : cutS (rowS m) none (some ((m.length : Int) - (k : Int))) = rowS (m.take (m.length - k)) := by rw [ek]; exact rowS_to m _ (by omega)
  show tSeq _ _ _ _ _
  rw [ec]
  have ml : (m.take (m.length - k)).length = m.length - k := by rw [List.length_take]; omega
  refine ⟨_, rfl, _, rfl, _, rfl, r', -(k : Int), rfl, hr'.ne, Nat.le_trans (hr'.len r0) lr, ?_⟩
  have r2n : turn r' (-(k : Int)) ≠ [] := turn_ne hr'.ne
  have r2p : Prim (turn r' (-(k : Int))) := turn_prim hr'.ne _ hr'.pr
  have r2l : (turn r' (-(k : Int))).length ≤ 4194304 := by rw [turn_len]; exact Nat.le_trans (hr'.len r0) lr
  have m1 : ∀ n, (Frm.mk l' low (m.take (m.length - k)) (turn r' (-(k : Int)))).mem n = (Frm.mk l low m r).mem n := fun n => by
    rw [mem_back hr'.ne hk hb, mem_alike hl'.eq hr'.eq]
  refine ⟨_, rfl, rfl, _, rfl, ?_⟩
  have ed : decide (V.str (rowS (m.take (m.length - k))) = V.str ("" : Str)) = decide (m.take (m.length - k) = []) := by rw [← rowS_nil, rowS_dec]
  show if decide (V.str (rowS (m.take (m.length - k))) = V.str ("" : Str)) = true then _ else _
  rw [ed]
  refine ite2 (fun c => ?_) (fun c => ?_)
  · have e : m.take (m.length - k) = [] := of_decide_eq_true c
    refine ⟨_, rfl, _, rfl, _, rfl, l', low, _, rfl, hl'.ne, r2n, hl'.pr, r2p, Nat.le_trans (hl'.len l0) ll, r2l, fun F hF hm hz p H2 le e2 => q F hF (fun n => ?_) hz p H2 le e2⟩
    rw [hm, ← m1, e]
  have m0 : m.take (m.length - k) ≠ [] := fun e => c (decide_eq_true e)
  have hkl : k < m.length := by
    rcases he with e | _
    · exfalso; apply m0; apply List.eq_nil_of_length_eq_zero; omega
    · rcases Nat.lt_or_ge k m.length with h | h
      · exact h
      · exfalso; apply m0; apply List.eq_nil_of_length_eq_zero; omega
  have hodd : (m.take (m.length - k)).getD ((m.take (m.length - k)).length - 1) false ≠ cyc (turn r' (-(k : Int))) (-1) := by
    rw [ml, take_getD m (by omega), turn_cyc hr'.ne]
    rcases he with e | e
    · omega
    · rw [show m.length - k - 1 = m.length - 1 - k by omega, show (-1 : Int) + -(k : Int) = -1 - (k : Int) by omega]
      exact e
  have sm' : (rowS (m.take (m.length - k))).length ≤ sizeLine := szl (by rw [ml]; omega)
  have lm' : (m.take (m.length - k)).length ≤ 4194304 := by rw [ml]; omega
  generalize hM : m.take (m.length - k) = M at *
  generalize hR : turn r' (-(k : Int)) = R at *
  refine ⟨fun σ' H2 => ∃ j : Nat, σ' = [some (.str (rowS l')), some (.int low), some (.str (rowS M)), some (.str (rowS R)), some (.int (j : Int))] ∧ H2 = H' ∧ j ≤ M.length ∧ (∀ i, i < j → M.getD i false = cyc l' (i : Int)) ∧ (j = M.length ∨ M.getD j false ≠ cyc l' (j : Int)), ?_, ?_⟩
  · refine ⟨fun n σ' H2 => ∃ j : Nat, n = M.length - j ∧ σ' = [some (.str (rowS l')), some (.int low), some (.str (rowS M)), some (.str (rowS R)), some (.int (j : Int))] ∧ H2 = H' ∧ j ≤ M.length ∧ (∀ i, i < j → M.getD i false = cyc l' (i : Int)), ⟨_, 0, rfl, rfl, rfl, Nat.zero_le _, fun i hi => absurd hi (Nat.not_lt_zero _)⟩, ?_⟩
    rintro n σ' H2 ⟨j, rfl, rfl, rfl, hj, hb2⟩
    refine ⟨_, rfl, _, rfl, _, rfl, sm', _, _, rfl, rfl, _, rfl, ?_⟩
    rw [rowS_len]
    refine ite2 (fun c => ?_) (fun c => ?_)
    · have hlt : j < M.length := by have := of_decide_eq_true c; omega
      refine ⟨_, rfl, _, rfl, _, _, _, rfl, rfl, sm', rowS_at hlt, _, rfl, _, rfl, _, rfl, _, rfl, sl, _, _, rfl, rfl, posl hl'.ne, _, _, _, rfl, rfl, sl, by rw [rowS_len]; exact rowS_cyc hl'.ne _, rfl, _, rfl, ?_⟩
      rw [sgn_dec]
      refine ite2 (fun c2 => ?_) (fun c2 => ?_)
      · have e2 := of_decide_eq_true c2
        refine ⟨fun σ2 H3 => ∃ k2 : Nat, k2 = j + 1 ∧ σ2 = [some (.str (rowS l')), some (.int low), some (.str (rowS M)), some (.str (rowS R)), some (.int (k2 : Int))] ∧ H3 = H2, fun σ2 H3 ⟨k2, e, z1, z2⟩ => ⟨M.length - k2, by omega, k2, rfl, z1, z2, by omega, fun i hi => by
          by_cases e3 : i = j
          · subst e3; exact e2
          · exact hb2 i (by omega)⟩, ?_⟩
        exact ⟨_, rfl, _, _, rfl, rfl, j + 1, rfl, rfl, rfl⟩
      · exact ⟨j, rfl, rfl, hj, hb2, .inr fun e => c2 (decide_eq_true e)⟩
    · have he : j = M.length := by
        have : ¬ ((j : Int) < (M.length : Int)) := fun h => c (decide_eq_true h)
        omega
      exact ⟨j, rfl, rfl, hj, hb2, .inl he⟩
  rintro σ' H2 ⟨j, rfl, rfl, hj, hb2, he2⟩
  have L := least_mid low hl'.ne r2n hl'.pr r2p m0 hodd hj hb2 he2
  refine ⟨_, rfl, _, rfl, l', (j : Int), rfl, hl'.ne, Nat.le_trans (hl'.len l0) ll, ?_⟩
  refine ⟨_, rfl, _, rfl, _, _, rfl, rfl, _, rfl, _, rfl, _, rfl, _, rfl, sm', _, rfl, le_szl 4 (by decide), fun p hp => ?_⟩
  refine q _ L.1 (fun n => by rw [L.2, m1]) ⟨by show (turn l' _).length ≤ _; rw [turn_len]; exact Nat.le_trans (hl'.len l0) ll, by show (M.drop j).length ≤ _; rw [List.length_drop]; omega, r2l⟩ p _ (Le.new hp) ?_
  rw [upd_self]
  show _ = some (HO.tup [.str (rowS (turn l' (j : Int))), .int (low + (j : Int)), .str (rowS (M.drop j)), .str (rowS R)])
  rw [← rowS_from M j hj]
end
end Od
end
section
set_option Elab.async false
set_option linter.all false
set_option maxRecDepth 100000
set_option maxHeartbeats 2000000
set_option autoImplicit false
namespace Od
open PySem PySem.Spec PyProof.Rows L2 C8 Day
/-- what the text has written of the class DaySet -/
structure DSC (K : PySem.W.Frag) (mg : Str → Option Value) (C : Addr) : Prop where
  cl : Cls K C
  c : mg "DaySet" = some (.ref C)
  g : ∃ u, mg "DaySet" = some u ∧ L2.RelV (.ref C) u
  n_left : NoAttr K C "left"
  n_low : NoAttr K C "low"
  n_middle : NoAttr K C "middle"
  n_right : NoAttr K C "right"
  n_high : NoAttr K C "high"
  sf : PySem.W.selfFirst K C = true
  ne : PySem.W.findIn K (.ref C) "__ne__" = some (some (.builtin "object.__ne__"))
  ob : PySem.W.mroIn K C (.type "object") = some true
  ha : PySem.W.findIn K (.ref C) "__class__" = some (some (.builtin "object.__class__"))
  hn : PySem.W.specialIn K (.builtin "object.__class__") "__get__" = some (some (.builtin "getset_descriptor.__get__"))
  htk : PySem.W.takesIn K (.builtin "object.__class__") = some true
  isi : PySem.W.kitOne K (.ref C) (.ref C) = some true
  si : PySem.W.subIn K (.type "int") (.ref C) = some false
  r_rshift : PySem.W.findIn K (.ref C) (dunderR "rshift") = some none
  r_lshift : PySem.W.findIn K (.ref C) (dunderR "lshift") = some none
  i_rshift : PySem.W.findIn K (.type "int") (PySem.dunder "rshift") = some (some (.builtin "int.__rshift__"))
  i_lshift : PySem.W.findIn K (.type "int") (PySem.dunder "lshift") = some (some (.builtin "int.__lshift__"))
  i_rrshift : PySem.W.findIn K (.type "int") (dunderR "rshift") = some (some (.builtin "int.__rrshift__"))
  i_rlshift : PySem.W.findIn K (.type "int") (dunderR "lshift") = some (some (.builtin "int.__rlshift__"))
def fldF (F : Frm) : List (Str × V) := [("left", .str (rowS F.l)), ("low", .int F.low), ("middle", .str (rowS F.m)), ("right", .str (rowS F.r)), ("high", .int F.high)]
theorem f_left (F : Frm) : (fldF F).lookup ("left" : Str) = some (V.str (rowS F.l)) := by rfl
theorem f_low (F : Frm) : (fldF F).lookup ("low" : Str) = some (V.int F.low) := by rfl
theorem f_middle (F : Frm) : (fldF F).lookup ("middle" : Str) = some (V.str (rowS F.m)) := by rfl
theorem f_right (F : Frm) : (fldF F).lookup ("right" : Str) = some (V.str (rowS F.r)) := by rfl
theorem f_high (F : Frm) : (fldF F).lookup ("high" : Str) = some (V.int F.high) := by rfl
/-- the object p is the set of the days n with f n -/
def IsDay (C : Addr) (H : Hp) (p : Addr) (f : Int → Bool) : Prop := ∃ F dx, Least F ∧ Sz F ∧ (∀ n, F.mem n = f n) ∧ H p = some (.ins C dx (fldF F))
theorem IsDay.le {C : Addr} {H H' : Hp} {p : Addr} {f : Int → Bool} (d : IsDay C H p f) (l : Le H H') : IsDay C H' p f := by
  obtain ⟨F, dx, L, z, m, e⟩ := d
  exact ⟨F, dx, L, z, m, l p _ e⟩
theorem IsDay.lx {C : Addr} {H H' : Hp} {D p : Addr} {f : Int → Bool} (d : IsDay C H p f) (l : LeX D H H') (hD : ∃ acc, H D = some (.lst acc)) : IsDay C H' p f := by
  obtain ⟨F, dx, L, z, m, e⟩ := d
  refine ⟨F, dx, L, z, m, l p _ (fun c => ?_) e⟩
  subst c
  obtain ⟨acc, e2⟩ := hD
  rw [e] at e2
  cases e2
theorem IsDay.to {C : Addr} {H : Hp} {p : Addr} {f g : Int → Bool} (d : IsDay C H p f) (h : ∀ n, f n = g n) : IsDay C H p g := by
  obtain ⟨F, dx, L, z, m, e⟩ := d
  exact ⟨F, dx, L, z, fun n => (m n).trans (h n), e⟩
abbrev s_DaySet___init__ : Stmt := inClass (top 24) 0
abbrev N_DaySet___init__ : List Str := ["self", "left", "low", "middle", "right"]
abbrev P_DaySet___init__ : List Str := ["self", "left", "low", "middle", "right"]
theorem sc_DaySet___init__ : FnScope N_DaySet___init__ P_DaySet___init__ (C8.fnScope s_DaySet___init__) := fnScope_by (by decide +kernel)
abbrev s_DaySet_sign : Stmt := inClass (top 24) 8
abbrev N_DaySet_sign : List Str := ["self", "n"]
abbrev P_DaySet_sign : List Str := ["self", "n"]
theorem sc_DaySet_sign : FnScope N_DaySet_sign P_DaySet_sign (C8.fnScope s_DaySet_sign) := fnScope_by (by decide +kernel)
section
variable {P : Program} {w : World} {K : PySem.W.Frag} {mg : Str → Option Value} {base : Heap}
/-! ### __init__ -/
def sp_init (C : Addr) : Sp := fun vs H Q _ => ∃ (x dx : Addr) (l : List Bool) (low : Int) (m r : List Bool), vs = [.ref x, .str (rowS l), .int low, .str (rowS m), .str (rowS r)] ∧ H x = some (.ins C dx []) ∧ l ≠ [] ∧ r ≠ [] ∧ l.length ≤ 4194304 ∧ m.length ≤ 4194304 ∧ r.length ≤ 4194304 ∧
  ∀ F, Least F → (∀ n, F.mem n = (Frm.mk l low m r).mem n) → Sz F → ∀ H', LeX x H H' → H' x = some (.ins C dx (fldF F)) → Q .non H'
theorem k_init {C : Addr} (T : Txt K mg) (D : DSC K mg C) (M : MakOf K C "DaySet.__init__" s_DaySet___init__ P_DaySet___init__) (C_least_form : Cal P w K mg base 3 "least_form" sp_least_form []) : Mak P w K mg base 4 "DaySet" C (sp_init C) [] := by
  obtain ⟨f, fd, M, F, B⟩ := M
  refine mak0 M D.c F B .nil sc_DaySet___init__ (fun vs H Q E h => by obtain ⟨_, _, _, _, _, _, rfl, _⟩ := h; rfl) (fun cdv A outer s H vs Q E hr h => ?_)
  obtain ⟨x, dx, l, low, m, r, rfl, hx, l0, r0, ll, lm, lr, q⟩ := h
  have nd := sc_DaySet___init__.nd
  refine ⟨_, (pss_cons (ps_asg (pe_c C_least_form hr (by decide) rfl (pa_cons (pv 1) (pa_cons (pv 2) (pa_cons (pv 3) (pa_cons (pv 4) pa_nil))))) (pg_tup rfl (pgs_cons (pg_fld (pv 0)) (pgs_cons (pg_fld (pv 0)) (pgs_cons (pg_fld (pv 0)) (pgs_cons (pg_fld (pv 0)) pgs_nil))))))
      (pss_one (ps_fld (pv 0) (pe_op op_add (pe_fld (pv 0) rfl) (pe_callB call_len_str (by rfl) T.b_len (by decide +kernel) (pa_cons (pe_fld (pv 0) rfl) pa_nil))) rfl))), ?_⟩
  refine ⟨_, rfl, _, rfl, _, rfl, _, rfl, l, low, m, r, rfl, l0, r0, ll, lm, lr, fun F hF hm hz p H' le e => ?_⟩
  have hx' := le x _ hx
  refine ⟨p, _, rfl, .of e, rfl, ?_⟩
  refine ⟨_, _, rfl, _, rfl, _, _, _, _, rfl, hx', D.cl, D.n_left, by decide, ?_⟩
  refine ⟨_, _, rfl, _, rfl, _, _, _, _, rfl, upd_self, D.cl, D.n_low, lt_put (by decide), ?_⟩
  refine ⟨_, _, rfl, _, rfl, _, _, _, _, rfl, upd_self, D.cl, D.n_middle, lt_put (lt_put (by decide)), ?_⟩
  refine ⟨_, _, rfl, _, rfl, _, _, _, _, rfl, upd_self, D.cl, D.n_right, lt_put (lt_put (lt_put (by decide))), ?_⟩
  refine ⟨rfl, ?_⟩
  refine ⟨_, rfl, _, _, _, _, _, rfl, upd_self, D.cl, D.n_low, by rfl, _, rfl, _, _, _, _, _, rfl, upd_self, D.cl, D.n_middle, by rfl, _, rfl, szl hz.m, _, _, rfl, rfl, _, rfl, _, _, _, _, rfl, upd_self, D.cl, D.n_high, lt_put (lt_put (lt_put (lt_put (by decide)))), ?_⟩
  refine q F hF hm hz _ ?_ ?_
  · exact le.x.upd.upd.upd.upd.upd
  · rw [upd_self]
    simp only [rowS_len]
    rfl
/-- a new set, told by a function -/
theorem make_day {C : Addr} {H : Hp} {Q : VK} {E : XK} (l : List Bool) (low : Int) (m r : List Bool) (f : Int → Bool) (l0 : l ≠ []) (r0 : r ≠ []) (ll : l.length ≤ 4194304) (lm : m.length ≤ 4194304) (lr : r.length ≤ 4194304)
    (hm : ∀ n, (Frm.mk l low m r).mem n = f n) (q : ∀ p H', Le H H' → IsDay C H' p f → H p = none → Q (.ref p) H') :
    ∀ x dx, H x = none → H dx = none → dx ≠ x → sp_init C (.ref x :: ([.str (rowS l), .int low, .str (rowS m), .str (rowS r)] ++ [])) (upd (upd H dx (.own x)) x (.ins C dx [])) (fun v H2 => v = .non ∧ Q (.ref x) H2) E := by
  intro x dx hx hdx ne
  refine ⟨x, dx, l, low, m, r, rfl, upd_self, l0, r0, ll, lm, lr, fun F hF hmm hz H' lx e => ⟨rfl, q x H' (fun a o ha => ?_) ⟨F, dx, hF, hz, fun n => (hmm n).trans (hm n), e⟩ hx⟩⟩
  have c1 : a ≠ x := fun c => by subst c; rw [hx] at ha; cases ha
  have c2 : a ≠ dx := fun c => by subst c; rw [hdx] at ha; cases ha
  exact lx a o c1 (by rw [upd_ne c1, upd_ne c2]; exact ha)
theorem one_len {c : Nat} : (⟨#[c]⟩ : Str).length ≤ 640 := by show 1 ≤ 640; decide
/-! ### sign -/
def sp_sign (C : Addr) : Sp := fun vs H Q _ => ∃ (p : Addr) (n : Int) (f : Int → Bool), vs = [.ref p, .int n] ∧ IsDay C H p f ∧ Q (.int (bi (f n))) H
theorem q_sign {C : Addr} (T : Txt K mg) (D : DSC K mg C) (M : MetOf K C "sign" "DaySet.sign" s_DaySet_sign P_DaySet_sign) : Met P w K mg base 1 C "sign" (sp_sign C) [] := by
  obtain ⟨g, fd, M, F, B⟩ := M
  refine met0 D.cl M F B sc_DaySet_sign (fun vs H Q E h => by obtain ⟨_, _, _, rfl, _⟩ := h; rfl) (fun cdv A outer s H vs Q E hr h => ?_)
  obtain ⟨p, n, f, rfl, ⟨F, dx, L, z, hm, hp⟩, q⟩ := h
  have nd := sc_DaySet_sign.nd
  refine ⟨_, (pss_cons (ps_if (pt_cmpR op_ge (pv 1) (pe_fld (pv 0) rfl) (nomark _)) (pss_one (ps_ret (pe_callTy call_int_str (by rfl) T.b_int (by decide +kernel) (pa_cons (pe_ix ix_str (pe_fld (pv 0) rfl) (pe_op op_mod (pe_op op_sub (pv 1) (pe_fld (pv 0) rfl)) (pe_callB call_len_str (by rfl) T.b_len (by decide +kernel) (pa_cons (pe_fld (pv 0) rfl) pa_nil))) (fun _ _ => rfl)) pa_nil)))) pss_nil)
      (pss_cons (ps_if (pt_cmpR op_lt (pv 1) (pe_fld (pv 0) rfl) (nomark _)) (pss_one (ps_ret (pe_callTy call_int_str (by rfl) T.b_int (by decide +kernel) (pa_cons (pe_ix ix_str (pe_fld (pv 0) rfl) (pe_op op_mod (pe_op op_sub (pv 1) (pe_fld (pv 0) rfl)) (pe_callB call_len_str (by rfl) T.b_len (by decide +kernel) (pa_cons (pe_fld (pv 0) rfl) pa_nil))) (fun _ _ => rfl)) pa_nil)))) pss_nil)
      (pss_one (ps_ret (pe_callTy call_int_str (by rfl) T.b_int (by decide +kernel) (pa_cons (pe_ix ix_str (pe_fld (pv 0) rfl) (pe_op op_sub (pv 1) (pe_fld (pv 0) rfl)) (fun _ _ => rfl)) pa_nil)))))), ?_⟩
  rw [← hm] at q
  refine ⟨_, rfl, _, rfl, _, _, _, _, _, rfl, hp, D.cl, D.n_high, f_high F, _, _, rfl, rfl, _, rfl, ?_⟩
  refine ite2 (fun c => ?_) (fun c => ?_)
  · have c1 : F.high ≤ n := of_decide_eq_true c
    refine ⟨_, rfl, _, _, _, _, _, rfl, hp, D.cl, D.n_right, f_right F, _, rfl, _, rfl, _, _, _, _, _, rfl, hp, D.cl, D.n_high, f_high F, _, _, rfl, rfl, _, rfl, _, _, _, _, _, rfl, hp, D.cl, D.n_right, f_right F, _, rfl, szl z.r, _, _, rfl, rfl, posl L.r0, _, _, _, rfl, rfl, szl z.r, by rw [rowS_len]; exact rowS_cyc L.r0 _, _, _, rfl, int_sgn _, one_len, ?_⟩
    rw [F.mem_up c1] at q
    exact q
  have c1 : n < F.high := by
    have : ¬ F.high ≤ n := fun h => c (decide_eq_true h)
    omega
  refine ⟨_, rfl, _, rfl, _, _, _, _, _, rfl, hp, D.cl, D.n_low, f_low F, _, _, rfl, rfl, _, rfl, ?_⟩
  refine ite2 (fun c2 => ?_) (fun c2 => ?_)
  · have c3 : n < F.low := of_decide_eq_true c2
    refine ⟨_, rfl, _, _, _, _, _, rfl, hp, D.cl, D.n_left, f_left F, _, rfl, _, rfl, _, _, _, _, _, rfl, hp, D.cl, D.n_low, f_low F, _, _, rfl, rfl, _, rfl, _, _, _, _, _, rfl, hp, D.cl, D.n_left, f_left F, _, rfl, szl z.l, _, _, rfl, rfl, posl L.l0, _, _, _, rfl, rfl, szl z.l, by rw [rowS_len]; exact rowS_cyc L.l0 _, _, _, rfl, int_sgn _, one_len, ?_⟩
    rw [F.mem_dn c3] at q
    exact q
  have c3 : F.low ≤ n := by
    have : ¬ n < F.low := fun h => c2 (decide_eq_true h)
    omega
  have e : n - F.low = ((n - F.low).toNat : Int) := by omega
  have hl : (n - F.low).toNat < F.m.length := by unfold Frm.high at c1; omega
  refine ⟨_, rfl, _, _, _, _, _, rfl, hp, D.cl, D.n_middle, f_middle F, _, rfl, _, rfl, _, _, _, _, _, rfl, hp, D.cl, D.n_low, f_low F, _, _, rfl, rfl, _, _, _, rfl, rfl, szl z.m, by rw [e]; exact rowS_at hl, _, _, rfl, int_sgn _, one_len, ?_⟩
  rw [F.mem_mid c3 c1] at q
  exact q
end
end Od
end
section
set_option Elab.async false
set_option linter.all false
set_option maxRecDepth 100000
set_option maxHeartbeats 2000000
set_option autoImplicit false
namespace Od
open PySem PySem.Spec PyProof.Rows L2 C8 Day
abbrev s_DaySet_days_in : Stmt := inClass (top 24) 9
abbrev N_DaySet_days_in : List Str := ["self", "start", "stop", "n"]
abbrev P_DaySet_days_in : List Str := ["self", "start", "stop"]
theorem sc_DaySet_days_in : FnScope N_DaySet_days_in P_DaySet_days_in (C8.fnScope s_DaySet_days_in) := fnScope_by (by decide +kernel)
abbrev s_DaySet_merged : Stmt := inClass (top 24) 10
abbrev N_DaySet_merged : List Str := ["self", "other", "table", "low", "high", "before", "behind", "row", "n"]
abbrev P_DaySet_merged : List Str := ["self", "other", "table"]
theorem sc_DaySet_merged : FnScope N_DaySet_merged P_DaySet_merged (C8.fnScope s_DaySet_merged) := fnScope_by (by decide +kernel)
/-- the days from a on, b not within, that f tells -/
def daysIn (f : Int → Bool) (a b : Int) : List Int := ((List.range (b - a).toNat).map fun i => a + (i : Nat)).filter f
theorem mem_daysIn {f : Int → Bool} {a b n : Int} : n ∈ daysIn f a b ↔ a ≤ n ∧ n < b ∧ f n = true := by
  unfold daysIn
  rw [List.mem_filter, List.mem_map]
  constructor
  · rintro ⟨⟨i, hi, rfl⟩, hf⟩
    have := List.mem_range.mp hi
    exact ⟨by omega, by omega, hf⟩
  · rintro ⟨h1, h2, hf⟩
    exact ⟨⟨(n - a).toNat, List.mem_range.mpr (by omega), by omega⟩, hf⟩
theorem daysIn_fm (f : Int → Bool) (a b : Int) : (List.range (b - a).toNat).filterMap (fun i => if f (a + (i : Nat)) then some (V.int (a + (i : Nat))) else none) = (daysIn f a b).map V.int := by
  unfold daysIn
  generalize (List.range (b - a).toNat) = l
  induction l with
  | nil => rfl
  | cons i l ih =>
    rw [List.filterMap_cons, List.map_cons, List.filter_cons]
    cases h : f (a + (i : Nat)) with
    | true => simp only [if_true, List.map_cons, ih]
    | false => simpa using ih
theorem bi_dec (b : Bool) : decide (V.int (bi b) = V.int 1) = b := by cases b <;> decide
section
variable {P : Program} {w : World} {K : PySem.W.Frag} {mg : Str → Option Value} {base : Heap}
def sp_days_in (C : Addr) : Sp := fun vs H Q _ => ∃ (p : Addr) (a b : Int) (f : Int → Bool), vs = [.ref p, .int a, .int b] ∧ IsDay C H p f ∧ (-(2 ^ 62) ≤ a ∧ a < 2 ^ 62 ∧ -(2 ^ 62) ≤ b ∧ b < 2 ^ 62) ∧ b - a ≤ 16777216 ∧
  ∀ q H', Le H H' → H q = none → H' q = some (.lst ((daysIn f a b).map V.int)) → Q (.ref q) H'
theorem q_days_in {C : Addr} (T : Txt K mg) (D : DSC K mg C) (M : MetOf K C "days_in" "DaySet.days_in" s_DaySet_days_in P_DaySet_days_in) (Q_DaySet_sign : Met P w K mg base 1 C "sign" (sp_sign C) []) : Met P w K mg base 2 C "days_in" (sp_days_in C) [] := by
  obtain ⟨g, fd, M, F, B⟩ := M
  refine met0 D.cl M F B sc_DaySet_days_in (fun vs H Q E h => by obtain ⟨_, _, _, _, rfl, _⟩ := h; rfl) (fun cdv A outer s H vs Q E hr h => ?_)
  obtain ⟨p, a, b, f, rfl, hp, hb, hn, q⟩ := h
  have nd := sc_DaySet_days_in.nd
  refine ⟨_, (pss_one (ps_ret (pe_lc (own := [("n", 3)]) (g := gName 3) (by rfl) nd (pi_range2 (by rfl) T.b_range (pa_cons (pv 1) (pa_cons (pv 2) pa_nil))) (blkOk_by (own := [("n", 3)]) (N := N_DaySet_days_in) (sc := C8.fnScope s_DaySet_days_in) (by decide +kernel)) (fun _ _ _ _ _ => pg_name (i := 3) nd rfl (Or.inl rfl)) (fun _ _ _ _ _ => pts_one (pt_cmpR op_eq (pe_mt Q_DaySet_sign hr (by decide) (pv 0) (pa_cons (pv 3) pa_nil)) pe_int (nomark _))) (fun _ _ _ _ _ => (pv 3))))), ?_⟩
  refine ⟨_, rfl, _, rfl, _, _, rfl, hb, fun d hd => ?_⟩
  refine lc_pure walk_range hd (by have : sizeLine = 16777216 := sizeLine_eq; omega) (fun _ _ => trivial) yfn_le (fun i => if f (a + (i : Nat)) then some (V.int (a + (i : Nat))) else none) ?_ ?_
  · rintro i x H1 H2 hi le ⟨rfl, rfl⟩ N hN
    refine ⟨rfl, ?_⟩
    obtain ⟨F, dx, L, z, hm, hp'⟩ := hp.le le
    refine ⟨_, rfl, _, _, _, rfl, hp', by rfl, _, rfl, p, _, f, rfl, ⟨F, dx, L, z, hm, hp'⟩, rfl, _, rfl, ?_⟩
    rw [bi_dec]
    have := hN _ Le.refl
    cases hf : f (a + (i : Nat)) with
    | true => rw [hf] at this; exact ⟨_, rfl, this⟩
    | false => rw [hf] at this; exact this
  · intro H1 le e
    rw [daysIn_fm] at e
    exact q d H1 le hd e
/-! ### merged -/
def tabS (t : Bool → Bool → Bool) : List Bool := [t false false, t false true, t true false, t true true]
theorem tab_at (t : Bool → Bool → Bool) (a b : Bool) : atI (rowS (tabS t)).cps.toList (2 * bi a + bi b) = some (sg (t a b)) := by
  have h : (2 * bi a + bi b) = (((if a then 2 else 0) + (if b then 1 else 0) : Nat) : Int) := by cases a <;> cases b <;> rfl
  rw [h, rowS_at (l := tabS t) (by cases a <;> cases b <;> (simp [tabS]))]
  cases a <;> cases b <;> rfl
theorem sum_one : ∀ l : List Bool, (l.map fun _ => 1).sum = l.length
  | [] => rfl
  | _ :: l => by rw [List.map_cons, List.sum_cons, sum_one l, List.length_cons, Nat.add_comm]
theorem join_signs (l : List Bool) : Txt.join ("" : Str) (l.map fun b => (⟨#[sg b]⟩ : Str)) = rowS l := by
  have h := SX.join_S [] (l.map fun b => [sg b])
  rw [List.map_map] at h
  have e : (l.map (SX.S ∘ fun b => [sg b])) = l.map fun b => (⟨#[sg b]⟩ : Str) := List.map_congr_left fun _ _ => rfl
  rw [e] at h
  have e2 : (SX.S [] : Str) = ("" : Str) := by decide +kernel
  rw [e2] at h
  rw [h]
  unfold rowS
  congr 1
  clear h e
  induction l with
  | nil => rfl
  | cons a l ih =>
    cases l with
    | nil => rfl
    | cons b l =>
      show [sg a] ++ ([] ++ TL.joinL [] ((b :: l).map fun b => [sg b])) = _
      rw [ih]
      rfl
theorem up_lcm {F G : Frm} (LF : Least F) (LG : Least G) (t : Bool → Bool → Bool) {hi : Int} (h1 : F.high ≤ hi) (h2 : G.high ≤ hi) : Up (fun n => t (F.mem n) (G.mem n)) ((Nat.lcm F.r.length G.r.length : Nat) : Int) hi := by
  intro n hn
  obtain ⟨k, hk⟩ := Nat.dvd_lcm_left F.r.length G.r.length
  obtain ⟨j, hj⟩ := Nat.dvd_lcm_right F.r.length G.r.length
  have a1 := (LF.up_high.mulN (by have := prim_len LF.r0; omega) k) n (by omega)
  have a2 := (LG.up_high.mulN (by have := prim_len LG.r0; omega) j) n (by omega)
  have e1 : ((Nat.lcm F.r.length G.r.length : Nat) : Int) = (k : Int) * F.r.length := by rw [hk]; simp [Int.mul_comm]
  have e2 : ((Nat.lcm F.r.length G.r.length : Nat) : Int) = (j : Int) * G.r.length := by rw [hj]; simp [Int.mul_comm]
  show t (F.mem (n + _)) (G.mem (n + _)) = t (F.mem n) (G.mem n)
  rw [← a1, ← a2, ← e1, ← e2]
theorem dn_lcm {F G : Frm} (LF : Least F) (LG : Least G) (t : Bool → Bool → Bool) {lo : Int} (h1 : lo ≤ F.low) (h2 : lo ≤ G.low) : Dn (fun n => t (F.mem n) (G.mem n)) ((Nat.lcm F.l.length G.l.length : Nat) : Int) lo := by
  intro n hn
  obtain ⟨k, hk⟩ := Nat.dvd_lcm_left F.l.length G.l.length
  obtain ⟨j, hj⟩ := Nat.dvd_lcm_right F.l.length G.l.length
  have a1 := (LF.dn_low.mulN (by have := prim_len LF.l0; omega) k) n (by omega)
  have a2 := (LG.dn_low.mulN (by have := prim_len LG.l0; omega) j) n (by omega)
  have e1 : ((Nat.lcm F.l.length G.l.length : Nat) : Int) = (k : Int) * F.l.length := by rw [hk]; simp [Int.mul_comm]
  have e2 : ((Nat.lcm F.l.length G.l.length : Nat) : Int) = (j : Int) * G.l.length := by rw [hj]; simp [Int.mul_comm]
  show t (F.mem (n - _)) (G.mem (n - _)) = t (F.mem n) (G.mem n)
  rw [← a1, ← a2, ← e1, ← e2]
theorem lcm_le {a b : Nat} {p : Int} (hp : 0 < p) (h1 : p % (a : Int) = 0) (h2 : p % (b : Int) = 0) : ((Nat.lcm a b : Nat) : Int) ≤ p := by
  have d1 : (a : Int) ∣ p := Int.dvd_of_emod_eq_zero h1
  have d2 : (b : Int) ∣ p := Int.dvd_of_emod_eq_zero h2
  have : Nat.lcm a b ∣ p.toNat := Nat.lcm_dvd (by have := Int.natAbs_dvd_natAbs.mpr d1; rw [Int.natAbs_natCast] at this; rwa [show p.natAbs = p.toNat by omega] at this) (by have := Int.natAbs_dvd_natAbs.mpr d2; rw [Int.natAbs_natCast] at this; rwa [show p.natAbs = p.toNat by omega] at this)
  have := Nat.le_of_dvd (by omega) this
  omega
def sp_merged (C : Addr) : Sp := fun vs H Q _ => ∃ (p q : Addr) (t : Bool → Bool → Bool) (f g : Int → Bool) (c b : Int), vs = [.ref p, .ref q, .str (rowS (tabS t))] ∧ IsDay C H p f ∧ IsDay C H q g ∧ 0 < c ∧ c ≤ 200000 ∧ 0 ≤ b ∧ b ≤ 1000000 ∧ Fit f c b ∧ Fit g c b ∧
  ∀ r H', Le H H' → IsDay C H' r (fun n => t (f n) (g n)) → H r = none → Q (.ref r) H'
theorem q_merged {C : Addr} (T : Txt K mg) (D : DSC K mg C) (M : MetOf K C "merged" "DaySet.merged" s_DaySet_merged P_DaySet_merged) (Q_DaySet_sign : Met P w K mg base 1 C "sign" (sp_sign C) []) (C_multiple_of : Cal P w K mg base 2 "multiple_of" sp_multiple_of []) (M_DaySet : Mak P w K mg base 4 "DaySet" C (sp_init C) []) :
    Met P w K mg base 6 C "merged" (sp_merged C) [] := by
  obtain ⟨gg, fd, M, F, B⟩ := M
  refine met0 D.cl M F B sc_DaySet_merged (fun vs H Q E h => by obtain ⟨_, _, _, _, _, _, _, rfl, _⟩ := h; rfl) (fun cdv A outer s H vs Q E hr h => ?_)
  obtain ⟨p, q, t, f, g, c, b, rfl, hp, hq, c0, c1, b0, b1, ff, fg, qq⟩ := h
  have nd := sc_DaySet_merged.nd
  refine ⟨_, (pss_cons (ps_set (i := 3) nd rfl (Or.inl rfl) (pe_callB (call_min2 rfl) (by rfl) T.b_min (by decide +kernel) (pa_cons (pe_callTy call_int1 (by rfl) T.b_int (by decide +kernel) (pa_cons (pe_fld (pv 0) rfl) pa_nil)) (pa_cons (pe_callTy call_int1 (by rfl) T.b_int (by decide +kernel) (pa_cons (pe_fld (pv 1) rfl) pa_nil)) pa_nil))))
      (pss_cons (ps_set (i := 4) nd rfl (Or.inl rfl) (pe_callB (call_max2 rfl) (by rfl) T.b_max (by decide +kernel) (pa_cons (pe_callTy call_int1 (by rfl) T.b_int (by decide +kernel) (pa_cons (pe_fld (pv 0) rfl) pa_nil)) (pa_cons (pe_callTy call_int1 (by rfl) T.b_int (by decide +kernel) (pa_cons (pe_fld (pv 1) rfl) pa_nil)) pa_nil))))
      (pss_cons (ps_set (i := 5) nd rfl (Or.inl rfl) (pe_c C_multiple_of hr (by decide) rfl (pa_cons (pe_callB call_len_str (by rfl) T.b_len (by decide +kernel) (pa_cons (pe_fld (pv 0) rfl) pa_nil)) (pa_cons (pe_callB call_len_str (by rfl) T.b_len (by decide +kernel) (pa_cons (pe_fld (pv 1) rfl) pa_nil)) pa_nil))))
      (pss_cons (ps_set (i := 6) nd rfl (Or.inl rfl) (pe_c C_multiple_of hr (by decide) rfl (pa_cons (pe_callB call_len_str (by rfl) T.b_len (by decide +kernel) (pa_cons (pe_fld (pv 0) rfl) pa_nil)) (pa_cons (pe_callB call_len_str (by rfl) T.b_len (by decide +kernel) (pa_cons (pe_fld (pv 1) rfl) pa_nil)) pa_nil))))
      (pss_cons (ps_set (i := 7) nd rfl (Or.inl rfl) (pe_join pe_str (pe_lc (own := [("n", 8)]) (g := gName 8) (by rfl) nd (pi_range2 (by rfl) T.b_range (pa_cons (pe_op op_sub (pv 3) (pv 5)) (pa_cons (pe_op op_add (pv 4) (pv 6)) pa_nil))) (blkOk_by (own := [("n", 8)]) (N := N_DaySet_merged) (sc := C8.fnScope s_DaySet_merged) (by decide +kernel)) (fun _ _ _ _ _ => pg_name (i := 8) nd rfl (Or.inl rfl)) (fun _ _ _ _ _ => pts_nil) (fun _ _ _ _ _ => (pe_ix ix_str (pv 2) (pe_op op_add (pe_op op_mul pe_int (pe_mt Q_DaySet_sign hr (by decide) (pv 0) (pa_cons (pv 8) pa_nil))) (pe_mt Q_DaySet_sign hr (by decide) (pv 1) (pa_cons (pv 8) pa_nil))) (fun _ _ => rfl))))))
      (pss_one (ps_ret (pe_mk M_DaySet hr (by decide) rfl (pa_cons (pe_slice sl_str (pv 7) po_none (po_some (pv 5))) (pa_cons (pv 3) (pa_cons (pe_slice sl_str (pv 7) (po_some (pv 5)) (po_some (pe_op op_sub (pe_callB call_len_str (by rfl) T.b_len (by decide +kernel) (pa_cons (pv 7) pa_nil)) (pv 6)))) (pa_cons (pe_slice sl_str (pv 7) (po_some (pe_op op_sub (pe_callB call_len_str (by rfl) T.b_len (by decide +kernel) (pa_cons (pv 7) pa_nil)) (pv 6))) po_none) pa_nil)))))))))))), ?_⟩
  obtain ⟨F, dx, L, z, hm, hp1⟩ := id hp
  obtain ⟨G, dy, LG, zG, hmG, hq1⟩ := id hq
  have ef : F.mem = f := funext hm
  have eg : G.mem = g := funext hmG
  subst ef
  subst eg
  obtain ⟨fl, fr, fpl, fpr, fh, flo⟩ := ff.form L c0 b0
  obtain ⟨gl, gr, gpl, gpr, gh, glo⟩ := fg.form LG c0 b0
  refine ⟨_, rfl, _, _, _, _, _, rfl, hp1, D.cl, D.n_low, f_low F, .inl ⟨_, rfl, ?_⟩⟩
  refine ⟨_, rfl, _, _, _, _, _, rfl, hq1, D.cl, D.n_low, f_low G, .inl ⟨_, rfl, ?_⟩⟩
  refine ⟨_, _, rfl, ?_⟩
  refine ⟨_, rfl, _, _, _, _, _, rfl, hp1, D.cl, D.n_high, f_high F, .inl ⟨_, rfl, ?_⟩⟩
  refine ⟨_, rfl, _, _, _, _, _, rfl, hq1, D.cl, D.n_high, f_high G, .inl ⟨_, rfl, ?_⟩⟩
  refine ⟨_, _, rfl, ?_⟩
  have hlo : ∃ lo, (if G.low < F.low then G.low else F.low) = lo ∧ lo ≤ F.low ∧ lo ≤ G.low ∧ -b - 2 * c ≤ lo := ⟨_, rfl, by split <;> omega, by split <;> omega, by split <;> omega⟩
  have hhi : ∃ hi, (if G.high > F.high then G.high else F.high) = hi ∧ F.high ≤ hi ∧ G.high ≤ hi ∧ hi ≤ b := ⟨_, rfl, by split <;> omega, by split <;> omega, by split <;> omega⟩
  obtain ⟨lo, elo, lo1, lo2, lo3⟩ := hlo
  obtain ⟨hi, ehi, hi1, hi2, hi3⟩ := hhi
  rw [elo, ehi]
  have lFl := prim_len L.l0
  have lFr := prim_len L.r0
  have lGl := prim_len LG.l0
  have lGr := prim_len LG.r0
  refine ⟨_, rfl, _, _, _, _, _, rfl, hp1, D.cl, D.n_left, f_left F, _, rfl, szl z.l, _, rfl, _, _, _, _, _, rfl, hq1, D.cl, D.n_left, f_left G, _, rfl, szl zG.l, ?_⟩
  rw [rowS_len, rowS_len]
  refine ⟨F.l.length, G.l.length, rfl, lFl, lGl, by have := z.l; omega, by have := zG.l; omega, ?_⟩
  refine ⟨_, rfl, _, _, _, _, _, rfl, hp1, D.cl, D.n_right, f_right F, _, rfl, szl z.r, _, rfl, _, _, _, _, _, rfl, hq1, D.cl, D.n_right, f_right G, _, rfl, szl zG.r, ?_⟩
  rw [rowS_len, rowS_len]
  refine ⟨F.r.length, G.r.length, rfl, lFr, lGr, by have := z.r; omega, by have := zG.r; omega, ?_⟩
  have hu := up_lcm L LG t hi1 hi2
  have hd := dn_lcm L LG t lo1 lo2
  have la := lcm_le c0 fpl gpl
  have lb := lcm_le c0 fpr gpr
  have a0 : 0 < Nat.lcm F.l.length G.l.length := Nat.lcm_pos lFl lGl
  have b0' : 0 < Nat.lcm F.r.length G.r.length := Nat.lcm_pos lFr lGr
  generalize Nat.lcm F.l.length G.l.length = be at *
  generalize Nat.lcm F.r.length G.r.length = bh at *
  have hlh : lo ≤ hi := Int.le_trans lo1 (Int.le_trans F.low_high hi1)
  have hN : ((hi + (bh : Int)) - (lo - (be : Int))).toNat = be + (hi - lo).toNat + bh := by omega
  refine ⟨⟨_, rfl⟩, _, rfl, _, rfl, _, _, rfl, rfl, _, rfl, _, rfl, _, _, rfl, rfl, _, _, rfl, ?_, fun d hd0 => ?_⟩
  · exact ⟨by omega, by omega, by omega, by omega⟩
  rw [hN]
  refine lc_pure walk_range hd0 (le_szl _ (by omega)) (fun _ _ => trivial) yfn_le (fun i => some (V.str ⟨#[sg (t (F.mem (lo - be + (i : Nat))) (G.mem (lo - be + (i : Nat))))]⟩)) ?_ ?_
  · rintro i x H1 H2 hi le ⟨rfl, rfl⟩ N hN
    refine ⟨rfl, ?_⟩
    have hp2 := le p _ hp1
    have hq2 := le q _ hq1
    refine ⟨_, rfl, _, rfl, _, _, _, rfl, hp2, by rfl, _, rfl, p, _, _, rfl, hp.le le, ?_⟩
    refine ⟨_, _, rfl, rfl, .inl ⟨by decide, by decide⟩, _, rfl, _, _, _, rfl, hq2, by rfl, _, rfl, q, _, _, rfl, hq.le le, _, _, rfl, rfl, ?_⟩
    exact ⟨_, _, _, rfl, rfl, le_szl _ (by show 4 ≤ 16777216; decide), tab_at t _ _, hN _ Le.refl⟩
  intro H1 le e
  have er : ∃ R : List Bool, R = (List.range (be + (hi - lo).toNat + bh)).map (fun i => t (F.mem (lo - be + (i : Nat))) (G.mem (lo - be + (i : Nat)))) ∧ R.length = be + (hi - lo).toNat + bh ∧ ∀ i, i < R.length → R.getD i false = (fun n => t (F.mem n) (G.mem n)) (lo - be + (i : Nat)) := by
    refine ⟨_, rfl, by simp, fun i hi => ?_⟩
    rw [List.getD_eq_getElem?_getD, List.getElem?_map, List.getElem?_range (by simpa using hi)]
    rfl
  obtain ⟨R, eR, hR, hRi⟩ := er
  have e1 : H1 d = some (.lst ((R.map fun b => (⟨#[sg b]⟩ : Str)).map V.str)) := by
    rw [e, eR, List.map_map, List.map_map]
    congr 2
    rw [← List.filterMap_eq_map]
    rfl
  refine ⟨_, d, R.map fun b => (⟨#[sg b]⟩ : Str), rfl, rfl, .inl (.of e1), ?_, ?_⟩
  · have : ((R.map fun b => (⟨#[sg b]⟩ : Str)).map (·.length)).sum = R.length := by
      rw [List.map_map]
      have e3 : (R.map ((fun x : Str => x.length) ∘ fun b => (⟨#[sg b]⟩ : Str))) = R.map fun _ => 1 := List.map_congr_left fun _ _ => rfl
      rw [e3, sum_one]
    have e4 : (("" : Str)).length = 0 := by decide +kernel
    rw [this, e4, hR]
    omega
  rw [join_signs]
  have sR : (rowS R).length ≤ sizeLine := szl (by omega)
  have ej : (R.length : Int) - (bh : Int) = ((R.length - bh : Nat) : Int) := by omega
  refine ⟨_, rfl, _, rfl, _, rfl, _, rfl, sR, _, rfl, _, rfl, _, rfl, _, rfl, _, rfl, _, rfl, sR, _, rfl, _, _, rfl, rfl, _, rfl, _, rfl, sR, _, rfl, _, rfl, _, rfl, sR, _, rfl, _, _, rfl, rfl, _, rfl, _, rfl, sR, ?_⟩
  rw [rowS_len, ej, rowS_to R _ (by omega), rowS_mid R _ _ (by omega) (by omega), rowS_from R _ (by omega)]
  refine make_day _ lo _ _ (fun n => t (F.mem n) (G.mem n)) ?_ ?_ ?_ ?_ ?_ ?_ ?_
  · intro e0
    have := congrArg List.length e0
    rw [List.length_take, List.length_nil] at this
    omega
  · intro e0
    have := congrArg List.length e0
    rw [List.length_drop, List.length_nil] at this
    omega
  · rw [List.length_take]; omega
  · rw [List.length_take, List.length_drop]; omega
  · rw [List.length_drop]; omega
  · intro n
    have := form_of (f := fun n => t (F.mem n) (G.mem n)) (row := R) (low := lo) a0 b0' (by omega) hRi (by rw [hR, show lo + ((be + (hi - lo).toNat + bh - be - bh : Nat) : Int) = hi by omega]; exact hu) hd n
    rw [show R.length - bh - be = R.length - be - bh by omega]
    exact this
  · intro r H3 l3 hday hr0
    exact qq r H3 (le.trans l3) hday (le.none hr0)
end
end Od
end
section
set_option Elab.async false
set_option linter.all false
set_option maxRecDepth 100000
set_option maxHeartbeats 2000000
set_option autoImplicit false
namespace Od
open PySem PySem.Spec PyProof.Rows L2 C8 Day
theorem pe_not_own {X : Cx} {k j : Nat} {C : Addr} {sp : Sp} {ta : TE} {a : Expr} {pos : Pos} (c : C8.Met X.prog X.w X.K X.mg X.base k C "__bool__" sp []) (hr : Room j X.A) (hk : k ≤ j) (ha : PE X a ta) :
    PE X (.UnaryOp .Not a pos) (fun σ H Q => ta σ H fun x H1 => rTru C sp C8.E0 x H1 fun b H2 => Q (.bl (!b)) H2) := by
  refine ⟨fun pins s σ H Q I h => ?_⟩
  refine UnaryOp_ (thn (ha.run pins s σ H _ I h) fun v s1 ⟨x, H1, I1, r1, q1⟩ => ?_)
  exact not_of (thn (tru_ownM c hr hk pins s1 σ H1 x v (fun c H2 => Q (.bl (!c)) H2) I1 r1 q1) fun c s2 ⟨H2, I2, q2⟩ => ⟨.bl (!c), H2, I2, rfl, q2⟩)
abbrev s_DaySet___or__ : Stmt := inClass (top 24) 15
abbrev N_DaySet___or__ : List Str := ["self", "other"]
abbrev P_DaySet___or__ : List Str := ["self", "other"]
theorem sc_DaySet___or__ : FnScope N_DaySet___or__ P_DaySet___or__ (C8.fnScope s_DaySet___or__) := fnScope_by (by decide +kernel)
abbrev s_DaySet___and__ : Stmt := inClass (top 24) 16
abbrev N_DaySet___and__ : List Str := ["self", "other"]
abbrev P_DaySet___and__ : List Str := ["self", "other"]
theorem sc_DaySet___and__ : FnScope N_DaySet___and__ P_DaySet___and__ (C8.fnScope s_DaySet___and__) := fnScope_by (by decide +kernel)
abbrev s_DaySet___sub__ : Stmt := inClass (top 24) 17
abbrev N_DaySet___sub__ : List Str := ["self", "other"]
abbrev P_DaySet___sub__ : List Str := ["self", "other"]
theorem sc_DaySet___sub__ : FnScope N_DaySet___sub__ P_DaySet___sub__ (C8.fnScope s_DaySet___sub__) := fnScope_by (by decide +kernel)
abbrev s_DaySet___xor__ : Stmt := inClass (top 24) 18
abbrev N_DaySet___xor__ : List Str := ["self", "other"]
abbrev P_DaySet___xor__ : List Str := ["self", "other"]
theorem sc_DaySet___xor__ : FnScope N_DaySet___xor__ P_DaySet___xor__ (C8.fnScope s_DaySet___xor__) := fnScope_by (by decide +kernel)
abbrev s_DaySet___invert__ : Stmt := inClass (top 24) 19
abbrev N_DaySet___invert__ : List Str := ["self"]
abbrev P_DaySet___invert__ : List Str := ["self"]
theorem sc_DaySet___invert__ : FnScope N_DaySet___invert__ P_DaySet___invert__ (C8.fnScope s_DaySet___invert__) := fnScope_by (by decide +kernel)
section
variable {P : Program} {w : World} {K : PySem.W.Frag} {mg : Str → Option Value} {base : Heap}
def sp_bin (C : Addr) (t : Bool → Bool → Bool) : Sp := fun vs H Q _ => ∃ (p q : Addr) (f g : Int → Bool) (c b : Int), vs = [.ref p, .ref q] ∧ IsDay C H p f ∧ IsDay C H q g ∧ Ok f c b ∧ Ok g c b ∧
  ∀ r H', Le H H' → IsDay C H' r (fun n => t (f n) (g n)) → H r = none → Q (.ref r) H'
theorem tab_or : rowS (tabS (fun a b => a || b)) = ("0111" : Str) := by decide +kernel
theorem q_or {C : Addr} (T : Txt K mg) (D : DSC K mg C) (M : MetOf K C "__or__" "DaySet.__or__" s_DaySet___or__ P_DaySet___or__) (Q_DaySet_merged : Met P w K mg base 6 C "merged" (sp_merged C) []) : Met P w K mg base 7 C "__or__" (sp_bin C (fun a b => a || b)) [] := by
  obtain ⟨g, fd, M, F, B⟩ := M
  refine met0 D.cl M F B sc_DaySet___or__ (fun vs H Q E h => by obtain ⟨_, _, _, _, _, _, rfl, _⟩ := h; rfl) (fun cdv A outer s H vs Q E hr h => ?_)
  obtain ⟨p, q, f, g, c, b, rfl, hp, hq, o1, o2, qq⟩ := h
  have nd := sc_DaySet___or__.nd
  refine ⟨_, (pss_one (ps_ret (pe_mt Q_DaySet_merged hr (by decide) (pv 0) (pa_cons (pv 1) (pa_cons pe_str pa_nil))))), ?_⟩
  obtain ⟨F, dx, L, z, hm, hp1⟩ := id hp
  refine ⟨_, rfl, _, _, _, rfl, hp1, by rfl, _, rfl, p, q, (fun a b => a || b), f, g, c, b, ?_, hp, hq, o1.c0, o1.c1, o1.b0, o1.b1, o1.fit, o2.fit, qq⟩
  rw [tab_or]
  rfl
theorem tab_and : rowS (tabS (fun a b => a && b)) = ("0001" : Str) := by decide +kernel
theorem q_and {C : Addr} (T : Txt K mg) (D : DSC K mg C) (M : MetOf K C "__and__" "DaySet.__and__" s_DaySet___and__ P_DaySet___and__) (Q_DaySet_merged : Met P w K mg base 6 C "merged" (sp_merged C) []) : Met P w K mg base 7 C "__and__" (sp_bin C (fun a b => a && b)) [] := by
  obtain ⟨g, fd, M, F, B⟩ := M
  refine met0 D.cl M F B sc_DaySet___and__ (fun vs H Q E h => by obtain ⟨_, _, _, _, _, _, rfl, _⟩ := h; rfl) (fun cdv A outer s H vs Q E hr h => ?_)
  obtain ⟨p, q, f, g, c, b, rfl, hp, hq, o1, o2, qq⟩ := h
  have nd := sc_DaySet___and__.nd
  refine ⟨_, (pss_one (ps_ret (pe_mt Q_DaySet_merged hr (by decide) (pv 0) (pa_cons (pv 1) (pa_cons pe_str pa_nil))))), ?_⟩
  obtain ⟨F, dx, L, z, hm, hp1⟩ := id hp
  refine ⟨_, rfl, _, _, _, rfl, hp1, by rfl, _, rfl, p, q, (fun a b => a && b), f, g, c, b, ?_, hp, hq, o1.c0, o1.c1, o1.b0, o1.b1, o1.fit, o2.fit, qq⟩
  rw [tab_and]
  rfl
theorem tab_sub : rowS (tabS (fun a b => a && !b)) = ("0010" : Str) := by decide +kernel
theorem q_sub {C : Addr} (T : Txt K mg) (D : DSC K mg C) (M : MetOf K C "__sub__" "DaySet.__sub__" s_DaySet___sub__ P_DaySet___sub__) (Q_DaySet_merged : Met P w K mg base 6 C "merged" (sp_merged C) []) : Met P w K mg base 7 C "__sub__" (sp_bin C (fun a b => a && !b)) [] := by
  obtain ⟨g, fd, M, F, B⟩ := M
  refine met0 D.cl M F B sc_DaySet___sub__ (fun vs H Q E h => by obtain ⟨_, _, _, _, _, _, rfl, _⟩ := h; rfl) (fun cdv A outer s H vs Q E hr h => ?_)
  obtain ⟨p, q, f, g, c, b, rfl, hp, hq, o1, o2, qq⟩ := h
  have nd := sc_DaySet___sub__.nd
  refine ⟨_, (pss_one (ps_ret (pe_mt Q_DaySet_merged hr (by decide) (pv 0) (pa_cons (pv 1) (pa_cons pe_str pa_nil))))), ?_⟩
  obtain ⟨F, dx, L, z, hm, hp1⟩ := id hp
  refine ⟨_, rfl, _, _, _, rfl, hp1, by rfl, _, rfl, p, q, (fun a b => a && !b), f, g, c, b, ?_, hp, hq, o1.c0, o1.c1, o1.b0, o1.b1, o1.fit, o2.fit, qq⟩
  rw [tab_sub]
  rfl
theorem tab_xor : rowS (tabS (fun a b => a != b)) = ("0110" : Str) := by decide +kernel
theorem q_xor {C : Addr} (T : Txt K mg) (D : DSC K mg C) (M : MetOf K C "__xor__" "DaySet.__xor__" s_DaySet___xor__ P_DaySet___xor__) (Q_DaySet_merged : Met P w K mg base 6 C "merged" (sp_merged C) []) : Met P w K mg base 7 C "__xor__" (sp_bin C (fun a b => a != b)) [] := by
  obtain ⟨g, fd, M, F, B⟩ := M
  refine met0 D.cl M F B sc_DaySet___xor__ (fun vs H Q E h => by obtain ⟨_, _, _, _, _, _, rfl, _⟩ := h; rfl) (fun cdv A outer s H vs Q E hr h => ?_)
  obtain ⟨p, q, f, g, c, b, rfl, hp, hq, o1, o2, qq⟩ := h
  have nd := sc_DaySet___xor__.nd
  refine ⟨_, (pss_one (ps_ret (pe_mt Q_DaySet_merged hr (by decide) (pv 0) (pa_cons (pv 1) (pa_cons pe_str pa_nil))))), ?_⟩
  obtain ⟨F, dx, L, z, hm, hp1⟩ := id hp
  refine ⟨_, rfl, _, _, _, rfl, hp1, by rfl, _, rfl, p, q, (fun a b => a != b), f, g, c, b, ?_, hp, hq, o1.c0, o1.c1, o1.b0, o1.b1, o1.fit, o2.fit, qq⟩
  rw [tab_xor]
  rfl
theorem tab_inv : rowS (tabS (fun a b => !(a && b))) = ("1110" : Str) := by decide +kernel
def sp_inv (C : Addr) : Sp := fun vs H Q _ => ∃ (p : Addr) (f : Int → Bool) (c b : Int), vs = [.ref p] ∧ IsDay C H p f ∧ Ok f c b ∧ ∀ r H', Le H H' → IsDay C H' r (fun n => !f n) → H r = none → Q (.ref r) H'
theorem q_invert {C : Addr} (T : Txt K mg) (D : DSC K mg C) (M : MetOf K C "__invert__" "DaySet.__invert__" s_DaySet___invert__ P_DaySet___invert__) (Q_DaySet_merged : Met P w K mg base 6 C "merged" (sp_merged C) []) : Met P w K mg base 7 C "__invert__" (sp_inv C) [] := by
  obtain ⟨g, fd, M, F, B⟩ := M
  refine met0 D.cl M F B sc_DaySet___invert__ (fun vs H Q E h => by obtain ⟨_, _, _, _, rfl, _⟩ := h; rfl) (fun cdv A outer s H vs Q E hr h => ?_)
  obtain ⟨p, f, c, b, rfl, hp, o1, qq⟩ := h
  have nd := sc_DaySet___invert__.nd
  refine ⟨_, (pss_one (ps_ret (pe_mt Q_DaySet_merged hr (by decide) (pv 0) (pa_cons (pv 0) (pa_cons pe_str pa_nil))))), ?_⟩
  obtain ⟨F, dx, L, z, hm, hp1⟩ := id hp
  refine ⟨_, rfl, _, _, _, rfl, hp1, by rfl, _, rfl, p, p, (fun a b => !(a && b)), f, f, c, b, ?_, hp, hp, o1.c0, o1.c1, o1.b0, o1.b1, o1.fit, o1.fit, fun r H' le hd h0 => qq r H' le (hd.to fun n => by simp) h0⟩
  rw [tab_inv]
  rfl
end
end Od
end
section
set_option Elab.async false
set_option linter.all false
set_option maxRecDepth 100000
set_option maxHeartbeats 2000000
set_option autoImplicit false
namespace Od
open PySem PySem.Spec PyProof.Rows L2 C8 Day
abbrev s_DaySet___str__ : Stmt := inClass (top 24) 11
abbrev N_DaySet___str__ : List Str := ["self", "middle"]
abbrev P_DaySet___str__ : List Str := ["self"]
theorem sc_DaySet___str__ : FnScope N_DaySet___str__ P_DaySet___str__ (C8.fnScope s_DaySet___str__) := fnScope_by (by decide +kernel)
abbrev s_DaySet___bool__ : Stmt := inClass (top 24) 13
abbrev N_DaySet___bool__ : List Str := ["self"]
abbrev P_DaySet___bool__ : List Str := ["self"]
theorem sc_DaySet___bool__ : FnScope N_DaySet___bool__ P_DaySet___bool__ (C8.fnScope s_DaySet___bool__) := fnScope_by (by decide +kernel)
abbrev s_DaySet___eq__ : Stmt := inClass (top 24) 14
abbrev N_DaySet___eq__ : List Str := ["self", "other"]
abbrev P_DaySet___eq__ : List Str := ["self", "other"]
theorem sc_DaySet___eq__ : FnScope N_DaySet___eq__ P_DaySet___eq__ (C8.fnScope s_DaySet___eq__) := fnScope_by (by decide +kernel)
abbrev s_DaySet___contains__ : Stmt := inClass (top 24) 12
abbrev N_DaySet___contains__ : List Str := ["self", "x"]
abbrev P_DaySet___contains__ : List Str := ["self", "x"]
theorem sc_DaySet___contains__ : FnScope N_DaySet___contains__ P_DaySet___contains__ (C8.fnScope s_DaySet___contains__) := fnScope_by (by decide +kernel)
abbrev s_DaySet_goes_up : Stmt := inClass (top 24) 30
abbrev N_DaySet_goes_up : List Str := ["self"]
abbrev P_DaySet_goes_up : List Str := ["self"]
theorem sc_DaySet_goes_up : FnScope N_DaySet_goes_up P_DaySet_goes_up (C8.fnScope s_DaySet_goes_up) := fnScope_by (by decide +kernel)
abbrev s_DaySet_goes_down : Stmt := inClass (top 24) 31
abbrev N_DaySet_goes_down : List Str := ["self"]
abbrev P_DaySet_goes_down : List Str := ["self"]
theorem sc_DaySet_goes_down : FnScope N_DaySet_goes_down P_DaySet_goes_down (C8.fnScope s_DaySet_goes_down) := fnScope_by (by decide +kernel)
theorem Ok.sizes {F : Frm} {c b : Int} (o : Ok F.mem c b) (L : Least F) : F.low.natAbs < 10 ^ 8 ∧ F.high ≤ b ∧ -b - 2 * c ≤ F.low ∧ (F.l.length : Int) ≤ c ∧ (F.r.length : Int) ≤ c ∧ c % F.l.length = 0 ∧ c % F.r.length = 0 := by
  obtain ⟨h1, h2, h3, h4, h5, h6⟩ := o.fit.form L o.c0 o.b0
  have := o.c0; have := o.c1; have := o.b0; have := o.b1
  have := F.low_high
  exact ⟨by omega, h5, h6, h1, h2, h3, h4⟩
theorem log_lt {n : Nat} (h : n < 10 ^ 8) : n.log2 < 1920 := by
  by_cases c : n = 0
  · subst c; decide
  · rw [Nat.log2_lt c]
    exact Nat.lt_of_lt_of_le h (Nat.le_trans (show 10 ^ 8 ≤ 2 ^ 27 by decide) (Nat.pow_le_pow_right (by decide) (by decide)))
theorem lenA (a b : Str) : (a ++ b).length = a.length + b.length := by
  show (a.cps ++ b.cps).size = _
  rw [Array.size_append]
  rfl
/-- a day of it -/
def Any (f : Int → Bool) : Prop := ∃ n, f n = true
theorem any_mem {l : List Bool} : (49 ∈ l.map sg) ↔ true ∈ l := by
  rw [List.mem_map]
  constructor
  · rintro ⟨b, hb, e⟩
    cases b
    · cases e
    · exact hb
  · intro h
    exact ⟨true, h, rfl⟩
theorem cyc_mem {l : List Bool} (l0 : l ≠ []) (z : Int) (h : cyc l z = true) : true ∈ l := by
  unfold cyc at h
  have h1 := Int.emod_lt_of_pos z (show (0 : Int) < l.length by have := prim_len l0; omega)
  have h2 := Int.emod_nonneg z (show (l.length : Int) ≠ 0 by have := prim_len l0; omega)
  have h3 : (z % (l.length : Int)).toNat < l.length := by omega
  rw [List.getD_eq_getElem?_getD, List.getElem?_eq_getElem h3] at h
  have h4 : l[(z % (l.length : Int)).toNat] = true := h
  rw [← h4]
  exact List.getElem_mem _
theorem mem_cyc {l : List Bool} (h : true ∈ l) : ∃ i : Nat, i < l.length ∧ cyc l (i : Int) = true := by
  obtain ⟨i, hi, e⟩ := List.mem_iff_getElem.mp h
  refine ⟨i, hi, ?_⟩
  rw [cyc_nat hi, List.getD_eq_getElem?_getD, List.getElem?_eq_getElem hi, e]
  rfl
theorem any_form {F : Frm} (L : Least F) : (49 ∈ (F.l ++ F.m ++ F.r).map sg) ↔ Any F.mem := by
  rw [any_mem, List.mem_append, List.mem_append]
  constructor
  · rintro ((h | h) | h)
    · obtain ⟨i, hi, e⟩ := mem_cyc h
      refine ⟨F.low - F.l.length + i, ?_⟩
      rw [F.mem_dn (by omega)]
      rw [← cyc_per] at e
      rw [show F.low - (F.l.length : Int) + (i : Int) - F.low = (i : Int) + (-1) * F.l.length by omega, cyc_per.at]
      rw [cyc_per] at e
      exact e
    · obtain ⟨i, hi, e⟩ := List.mem_iff_getElem.mp h
      refine ⟨F.low + i, ?_⟩
      rw [F.mem_mid (by omega) (by unfold Frm.high; omega), show (F.low + (i : Int) - F.low).toNat = i by omega, List.getD_eq_getElem?_getD, List.getElem?_eq_getElem hi, e]
      rfl
    · obtain ⟨i, hi, e⟩ := mem_cyc h
      refine ⟨F.high + i, ?_⟩
      rw [F.mem_up (by omega), show F.high + (i : Int) - F.high = i by omega]
      exact e
  · rintro ⟨n, hn⟩
    by_cases h1 : F.high ≤ n
    · rw [F.mem_up h1] at hn
      exact .inr (cyc_mem L.r0 _ hn)
    · by_cases h2 : n < F.low
      · rw [F.mem_dn h2] at hn
        exact .inl (.inl (cyc_mem L.l0 _ hn))
      · rw [F.mem_mid (by omega) (by omega)] at hn
        refine .inl (.inr ?_)
        have h3 : (n - F.low).toNat < F.m.length := by unfold Frm.high at h1; omega
        rw [List.getD_eq_getElem?_getD, List.getElem?_eq_getElem h3] at hn
        have h4 : F.m[(n - F.low).toNat] = true := hn
        rw [← h4]
        exact List.getElem_mem _
section
variable {P : Program} {w : World} {K : PySem.W.Frag} {mg : Str → Option Value} {base : Heap}
/-! ### __str__ -/
def sp_str (C : Addr) : Sp := fun vs H Q _ => ∃ (p : Addr) (f : Int → Bool) (c b : Int), vs = [.ref p] ∧ IsDay C H p f ∧ Ok f c b ∧ ∀ F, Least F → (∀ n, F.mem n = f n) → Q (.str (strF F)) H
theorem q_str {C : Addr} (T : Txt K mg) (D : DSC K mg C) (M : MetOf K C "__str__" "DaySet.__str__" s_DaySet___str__ P_DaySet___str__) : Met P w K mg base 1 C "__str__" (sp_str C) [] := by
  obtain ⟨g, fd, M, F, B⟩ := M
  refine met0 D.cl M F B sc_DaySet___str__ (fun vs H Q E h => by obtain ⟨_, _, _, _, rfl, _⟩ := h; rfl) (fun cdv A outer s H vs Q E hr h => ?_)
  obtain ⟨p, f, c, b, rfl, ⟨F, dx, L, z, hm, hp1⟩, o1, qq⟩ := h
  have nd := sc_DaySet___str__.nd
  refine ⟨_, (C8.pss_cut (ps_set (i := 1) nd rfl (Or.inl rfl) (pe_ifExp (pt_cmpR op_eq (pe_fld (pv 0) rfl) pe_str (nomark _)) pe_str (pe_fld (pv 0) rfl)))
      (pss_one (ps_ret (pe_joined (.cons (pe_fmt (pe_fld (pv 0) rfl)) (.cons pe_str (.cons (pe_fmt (pe_fld (pv 0) rfl)) (.cons pe_str (.cons (pe_fmt (pv 1)) (.cons pe_str (.cons (pe_fmt (pe_fld (pv 0) rfl)) .nil))))))))))), ?_⟩
  have ef : F.mem = f := funext hm
  subst ef
  obtain ⟨z1, _⟩ := o1.sizes L
  refine ⟨fun σ' H' => H' = H ∧ σ' = [some (.ref p), some (.str (midS F.m))], ?_, ?_⟩
  · refine ⟨_, rfl, _, _, _, _, _, rfl, hp1, D.cl, D.n_middle, f_middle F, rfl, _, rfl, ?_⟩
    have ed : decide (V.str (rowS F.m) = V.str ("" : Str)) = decide (F.m = []) := by rw [← rowS_nil, rowS_dec]
    show if decide (V.str (rowS F.m) = V.str ("" : Str)) = true then _ else _
    rw [ed]
    refine ite2 (fun c => ?_) (fun c => ?_)
    · have e : F.m = [] := of_decide_eq_true c
      exact ⟨rfl, by unfold midS; rw [if_pos e]; rfl⟩
    · have e : ¬ F.m = [] := fun e => c (decide_eq_true e)
      exact ⟨_, rfl, _, _, _, _, _, rfl, hp1, D.cl, D.n_middle, f_middle F, rfl, by unfold midS; rw [if_neg e]; rfl⟩
  rintro σ' H' ⟨rfl, rfl⟩
  have lg : F.low.natAbs.log2 < 1920 := log_lt z1
  have l1 : (numS F.low).length ≤ 9 := numS_len (by decide) z1
  have l2 : (rowS F.l).length ≤ 4194304 := by rw [rowS_len]; exact z.l
  have l3 : (midS F.m).length ≤ 4194304 := by
    unfold midS
    split
    · decide +kernel
    · rw [rowS_len]; exact z.m
  have l4 : (rowS F.r).length ≤ 4194304 := by rw [rowS_len]; exact z.r
  have l5 : ((" " : Str)).length = 1 := by decide +kernel
  have l0 : (Str.empty).length = 0 := rfl
  have sz : sizeLine = 16777216 := sizeLine_eq
  refine ⟨_, rfl, _, _, _, _, _, rfl, hp1, D.cl, D.n_left, f_left F, .inl ⟨_, rfl, by omega, _, rfl, by rw [lenA]; omega, ?_⟩⟩
  refine ⟨_, rfl, by rw [lenA, lenA]; omega, ?_⟩
  refine ⟨_, rfl, _, _, _, _, _, rfl, hp1, D.cl, D.n_low, f_low F, .inr ⟨_, rfl, lg, _, rfl, ?_, ?_⟩⟩
  · show (_ ++ numS F.low).length ≤ _
    rw [lenA, lenA, lenA]; omega
  refine ⟨_, rfl, ?_, ?_⟩
  · show (_ ++ numS F.low ++ _).length ≤ _
    rw [lenA, lenA, lenA, lenA]; omega
  refine ⟨_, rfl, .inl ⟨_, rfl, by omega, _, rfl, ?_, ?_⟩⟩
  · show (_ ++ numS F.low ++ _ ++ _).length ≤ _
    rw [lenA, lenA, lenA, lenA, lenA]; omega
  refine ⟨_, rfl, ?_, ?_⟩
  · show (_ ++ numS F.low ++ _ ++ _ ++ _).length ≤ _
    rw [lenA, lenA, lenA, lenA, lenA, lenA]; omega
  refine ⟨_, rfl, _, _, _, _, _, rfl, hp1, D.cl, D.n_right, f_right F, .inl ⟨_, rfl, by omega, _, rfl, ?_, ?_⟩⟩
  · show (_ ++ numS F.low ++ _ ++ _ ++ _ ++ _).length ≤ _
    rw [lenA, lenA, lenA, lenA, lenA, lenA, lenA]; omega
  exact qq F L fun _ => rfl
/-! ### __bool__ -/
def sp_bool (C : Addr) : Sp := fun vs H Q _ => ∃ (p : Addr) (f : Int → Bool), vs = [.ref p] ∧ IsDay C H p f ∧ ∀ b, (b = true ↔ Any f) → Q (.bl b) H
theorem q_bool {C : Addr} (T : Txt K mg) (D : DSC K mg C) (M : MetOf K C "__bool__" "DaySet.__bool__" s_DaySet___bool__ P_DaySet___bool__) : Met P w K mg base 1 C "__bool__" (sp_bool C) [] := by
  obtain ⟨g, fd, M, F, B⟩ := M
  refine met0 D.cl M F B sc_DaySet___bool__ (fun vs H Q E h => by obtain ⟨_, _, rfl, _⟩ := h; rfl) (fun cdv A outer s H vs Q E hr h => ?_)
  obtain ⟨p, f, rfl, ⟨F, dx, L, z, hm, hp1⟩, qq⟩ := h
  have nd := sc_DaySet___bool__.nd
  refine ⟨_, (pss_one (ps_ret (pe_cmpR op_in_sign pe_str (pe_op op_add_str (pe_op op_add_str (pe_fld (pv 0) rfl) (pe_fld (pv 0) rfl)) (pe_fld (pv 0) rfl)) (by rfl)))), ?_⟩
  have ef : F.mem = f := funext hm
  subst ef
  have sz : sizeLine = 16777216 := sizeLine_eq
  have h1 := z.l
  have h2 := z.m
  have h3 := z.r
  refine ⟨_, rfl, _, _, _, _, _, rfl, hp1, D.cl, D.n_left, f_left F, _, rfl, _, _, _, _, _, rfl, hp1, D.cl, D.n_middle, f_middle F, _, _, rfl, rfl, by rw [rowS_len, rowS_len]; omega, _, rfl, _, _, _, _, _, rfl, hp1, D.cl, D.n_right, f_right F, _, _, rfl, rfl, ?_, 49, _, rfl, rfl, ?_⟩
  · rw [rowS_cat, rowS_len, rowS_len, List.length_append]; omega
  refine qq _ ?_
  rw [rowS_cat, rowS_cat, rowS_tl, decide_eq_true_iff]
  exact any_form L
/-! ### __contains__ -/
def sp_has (C : Addr) : Sp := fun vs H Q _ => ∃ (p : Addr) (n : Int) (f : Int → Bool), vs = [.ref p, .int n] ∧ IsDay C H p f ∧ Q (.bl (f n)) H
theorem q_contains {C : Addr} (T : Txt K mg) (D : DSC K mg C) (M : MetOf K C "__contains__" "DaySet.__contains__" s_DaySet___contains__ P_DaySet___contains__) (Q_DaySet_sign : Met P w K mg base 1 C "sign" (sp_sign C) []) : Met P w K mg base 2 C "__contains__" (sp_has C) [] := by
  obtain ⟨g, fd, M, F, B⟩ := M
  refine met0 D.cl M F B sc_DaySet___contains__ (fun vs H Q E h => by obtain ⟨_, _, _, rfl, _⟩ := h; rfl) (fun cdv A outer s H vs Q E hr h => ?_)
  obtain ⟨p, n, f, rfl, hp, qq⟩ := h
  have nd := sc_DaySet___contains__.nd
  refine ⟨_, (pss_one (ps_ret (pe_cmpR op_eq (pe_mt Q_DaySet_sign hr (by decide) (pv 0) (pa_cons (pv 1) pa_nil)) pe_int (nomark _)))), ?_⟩
  obtain ⟨F, dx, L, z, hm, hp1⟩ := id hp
  refine ⟨_, rfl, _, _, _, rfl, hp1, by rfl, _, rfl, p, n, f, rfl, hp, rfl, ?_⟩
  rw [bi_dec]
  exact qq
/-! ### __eq__ -/
def sp_eq (C : Addr) : Sp := fun vs H Q _ => ∃ (p q : Addr) (f g : Int → Bool) (c b c' b' : Int), vs = [.ref p, .ref q] ∧ IsDay C H p f ∧ IsDay C H q g ∧ Ok f c b ∧ Ok g c' b' ∧ ∀ e, (e = true ↔ ∀ n, f n = g n) → Q (.bl e) H
theorem q_eq {C : Addr} (T : Txt K mg) (D : DSC K mg C) (M : MetOf K C "__eq__" "DaySet.__eq__" s_DaySet___eq__ P_DaySet___eq__) (Q_DaySet___str__ : Met P w K mg base 1 C "__str__" (sp_str C) []) : Met P w K mg base 3 C "__eq__" (sp_eq C) [] := by
  obtain ⟨g, fd, M, F, B⟩ := M
  refine met0 D.cl M F B sc_DaySet___eq__ (fun vs H Q E h => by obtain ⟨_, _, _, _, _, _, _, _, rfl, _⟩ := h; rfl) (fun cdv A outer s H vs Q E hr h => ?_)
  obtain ⟨p, q, f, g, c, b, c', b', rfl, hp, hq, o1, o2, qq⟩ := h
  have nd := sc_DaySet___eq__.nd
  refine ⟨_, (pss_one (ps_ret (pe_and (pe_callB call_isi (by rfl) T.b_isinstance (by decide +kernel) (pa_cons (pv 1) (pa_cons (pe_gc rfl D.g) pa_nil))) (pe_one (pe_cmpR op_eq (pe_callTy (call_str_ownM Q_DaySet___str__ hr (by decide)) (by rfl) T.b_str (by decide +kernel) (pa_cons (pv 0) pa_nil)) (pe_callTy (call_str_ownM Q_DaySet___str__ hr (by decide)) (by rfl) T.b_str (by decide +kernel) (pa_cons (pv 1) pa_nil)) (nomark _)))))), ?_⟩
  obtain ⟨F, dx, L, z, hm, hp1⟩ := id hp
  obtain ⟨G, dy, LG, zG, hmG, hq1⟩ := id hq
  refine ⟨_, rfl, _, _, _, _, true, rfl, .own C, .base (.ins hq1 D.cl D.ha D.hn D.htk D.ob), D.isi, true, rfl, ?_⟩
  refine ⟨_, rfl, _, _, _, rfl, hp1, p, f, c, b, rfl, hp, o1, fun F' hF' hm' => ⟨_, rfl, ?_⟩⟩
  refine ⟨_, rfl, _, _, _, rfl, hq1, q, g, c', b', rfl, hq, o2, fun G' hG' hmG' => ⟨_, rfl, rfl, ?_⟩⟩
  refine qq _ ?_
  rw [decide_eq_true_iff]
  constructor
  · intro e n
    injection e with e
    have := strF_inj e
    subst this
    rw [← hm', ← hmG']
  · intro e
    have : F' = G' := hF'.unique hG' fun n => by rw [hm', hmG', e]
    rw [this]
end
/-! .. as an argument of str -/
theorem str_one {C p : Addr} {H : Hp} {f : Int → Bool} {c b : Int} {F : Frm} {E : XK} {Q : VK} (d : IsDay C H p f) (o : Ok f c b) (L : Least F) (hm : ∀ n, F.mem n = f n) (q : Q (.str (strF F)) H) : rStr C (sp_str C) E [.ref p] H Q := by
  obtain ⟨F', dx, L', z, m, e⟩ := id d
  refine ⟨p, dx, _, rfl, e, p, f, c, b, rfl, d, o, fun F2 L2 hm2 => ?_⟩
  have : F2 = F := Least.unique L2 L fun n => (hm2 n).trans (hm n).symm
  subst this
  exact ⟨_, rfl, q⟩
end Od
end
section
set_option Elab.async false
set_option linter.all false
set_option maxRecDepth 100000
set_option maxHeartbeats 2000000
set_option autoImplicit false
namespace Od
open PySem PySem.Spec PyProof.Rows L2 C8 Day
theorem fm_get {α : Type} (xs : List α) : ((List.range xs.length).filterMap fun i => xs[i]?) = xs := by
  have h : ∀ n, n ≤ xs.length → ((List.range n).filterMap fun i => xs[i]?) = xs.take n := by
    intro n
    induction n with
    | zero => intro _; simp
    | succ n ih =>
      intro hn
      rw [List.range_succ, List.filterMap_append, ih (by omega), List.take_add_one]
      have : xs[n]? = some (xs[n]'(by omega)) := List.getElem?_eq_getElem (by omega)
      simp [this]
  rw [h _ (Nat.le_refl _), List.take_of_length_le (Nat.le_refl _)]
abbrev s_DaySet___le__ : Stmt := inClass (top 24) 20
abbrev N_DaySet___le__ : List Str := ["self", "other"]
abbrev P_DaySet___le__ : List Str := ["self", "other"]
theorem sc_DaySet___le__ : FnScope N_DaySet___le__ P_DaySet___le__ (C8.fnScope s_DaySet___le__) := fnScope_by (by decide +kernel)
abbrev s_DaySet___rshift__ : Stmt := inClass (top 24) 24
abbrev N_DaySet___rshift__ : List Str := ["self", "n"]
abbrev P_DaySet___rshift__ : List Str := ["self", "n"]
theorem sc_DaySet___rshift__ : FnScope N_DaySet___rshift__ P_DaySet___rshift__ (C8.fnScope s_DaySet___rshift__) := fnScope_by (by decide +kernel)
abbrev s_DaySet___lshift__ : Stmt := inClass (top 24) 25
abbrev N_DaySet___lshift__ : List Str := ["self", "n"]
abbrev P_DaySet___lshift__ : List Str := ["self", "n"]
theorem sc_DaySet___lshift__ : FnScope N_DaySet___lshift__ P_DaySet___lshift__ (C8.fnScope s_DaySet___lshift__) := fnScope_by (by decide +kernel)
abbrev s_DaySet___neg__ : Stmt := inClass (top 24) 26
abbrev N_DaySet___neg__ : List Str := ["self"]
abbrev P_DaySet___neg__ : List Str := ["self"]
theorem sc_DaySet___neg__ : FnScope N_DaySet___neg__ P_DaySet___neg__ (C8.fnScope s_DaySet___neg__) := fnScope_by (by decide +kernel)
abbrev s_DaySet_none : Stmt := inClass (top 24) 1
abbrev N_DaySet_none : List Str := ["cls"]
abbrev P_DaySet_none : List Str := ["cls"]
theorem sc_DaySet_none : FnScope N_DaySet_none P_DaySet_none (C8.fnScope s_DaySet_none) := fnScope_by (by decide +kernel)
abbrev s_DaySet_start : Stmt := inClass (top 24) 4
abbrev N_DaySet_start : List Str := ["cls", "n"]
abbrev P_DaySet_start : List Str := ["cls", "n"]
theorem sc_DaySet_start : FnScope N_DaySet_start P_DaySet_start (C8.fnScope s_DaySet_start) := fnScope_by (by decide +kernel)
theorem frm_shift (l : List Bool) (low : Int) (m r : List Bool) (k n : Int) : (Frm.mk l (low + k) m r).mem n = (Frm.mk l low m r).mem (n - k) := by
  have hh : (Frm.mk l (low + k) m r).high = low + k + m.length := rfl
  have hh' : (Frm.mk l low m r).high = low + m.length := rfl
  by_cases h1 : low + k + (m.length : Int) ≤ n
  · rw [Frm.mem_up _ (by rw [hh]; exact h1), Frm.mem_up _ (by rw [hh']; omega), hh, hh']
    congr 1; omega
  · by_cases h2 : n < low + k
    · rw [Frm.mem_dn _ h2, Frm.mem_dn _ (by show n - k < low; omega)]
      show cyc l (n - (low + k)) = cyc l (n - k - low)
      congr 1; omega
    · rw [Frm.mem_mid _ (by show low + k ≤ n; omega) (by rw [hh]; omega), Frm.mem_mid _ (by show low ≤ n - k; omega) (by rw [hh']; omega)]
      show m.getD (n - (low + k)).toNat false = m.getD (n - k - low).toNat false
      congr 2; omega
theorem cyc_rev {l : List Bool} (l0 : l ≠ []) (z : Int) : cyc l.reverse z = cyc l (-1 - z) := by
  have h0 := prim_len l0
  have h1 := Int.emod_lt_of_pos z (show (0 : Int) < l.length by omega)
  have h2 := Int.emod_nonneg z (show (l.length : Int) ≠ 0 by omega)
  have h3 : (-1 - z) % (l.length : Int) = l.length - 1 - z % (l.length : Int) := by
    have e : -1 - z = (l.length - 1 - z % (l.length : Int)) + (l.length : Int) * (-(z / (l.length : Int)) - 1) := by
      have := Int.mul_ediv_add_emod z (l.length : Int)
      rw [Int.mul_sub, Int.mul_neg]
      omega
    rw [e, Int.add_mul_emod_self_left, Int.emod_eq_of_lt (by omega) (by omega)]
  unfold cyc
  rw [h3, List.length_reverse]
  rw [List.getD_eq_getElem?_getD, List.getD_eq_getElem?_getD, List.getElem?_reverse (by omega)]
  congr 2
  omega
theorem frm_neg (F : Frm) (l0 : F.l ≠ []) (r0 : F.r ≠ []) (n : Int) : (Frm.mk F.r.reverse (1 - F.high) F.m.reverse F.l.reverse).mem n = F.mem (-n) := by
  have hh : (Frm.mk F.r.reverse (1 - F.high) F.m.reverse F.l.reverse).high = 1 - F.low := by
    unfold Frm.high
    simp only [List.length_reverse]
    omega
  by_cases h1 : 1 - F.low ≤ n
  · rw [Frm.mem_up _ (by rw [hh]; exact h1), hh, F.mem_dn (by omega)]
    show cyc F.l.reverse _ = _
    rw [cyc_rev l0]
    congr 1; omega
  · by_cases h2 : n < 1 - F.high
    · rw [Frm.mem_dn _ h2, F.mem_up (by omega)]
      show cyc F.r.reverse _ = _
      rw [cyc_rev r0]
      congr 1; simp only; omega
    · rw [Frm.mem_mid _ (by simp only; omega) (by rw [hh]; omega), F.mem_mid (by omega) (by omega)]
      show F.m.reverse.getD (n - (1 - F.high)).toNat false = _
      have : F.high = F.low + F.m.length := rfl
      rw [List.getD_eq_getElem?_getD, List.getD_eq_getElem?_getD, List.getElem?_reverse (by omega)]
      congr 2
      omega
section
variable {P : Program} {w : World} {K : PySem.W.Frag} {mg : Str → Option Value} {base : Heap}
/-! ### moved, turned -/
def sp_mv (C : Addr) (s : Int → Int) : Sp := fun vs H Q _ => ∃ (p : Addr) (k : Int) (f : Int → Bool), vs = [.ref p, .int k] ∧ IsDay C H p f ∧ ∀ r H', Le H H' → IsDay C H' r (fun n => f (n - s k)) → H r = none → Q (.ref r) H'
theorem q_rshift {C : Addr} (T : Txt K mg) (D : DSC K mg C) (M : MetOf K C "__rshift__" "DaySet.__rshift__" s_DaySet___rshift__ P_DaySet___rshift__) (M_DaySet : Mak P w K mg base 4 "DaySet" C (sp_init C) []) : Met P w K mg base 6 C "__rshift__" (sp_mv C fun k => k) [] := by
  obtain ⟨g, fd, M, F, B⟩ := M
  refine met0 D.cl M F B sc_DaySet___rshift__ (fun vs H Q E h => by obtain ⟨_, _, _, rfl, _⟩ := h; rfl) (fun cdv A outer s H vs Q E hr h => ?_)
  obtain ⟨p, k, f, rfl, ⟨F, dx, L, z, hm, hp1⟩, qq⟩ := h
  have nd := sc_DaySet___rshift__.nd
  refine ⟨_, (pss_one (ps_ret (pe_mk M_DaySet hr (by decide) rfl (pa_cons (pe_fld (pv 0) rfl) (pa_cons (pe_op op_add (pe_fld (pv 0) rfl) (pv 1)) (pa_cons (pe_fld (pv 0) rfl) (pa_cons (pe_fld (pv 0) rfl) pa_nil))))))), ?_⟩
  refine ⟨_, rfl, _, _, _, _, _, rfl, hp1, D.cl, D.n_left, f_left F, _, rfl, _, _, _, _, _, rfl, hp1, D.cl, D.n_low, f_low F, _, rfl, _, _, rfl, rfl, _, rfl, _, _, _, _, _, rfl, hp1, D.cl, D.n_middle, f_middle F, _, rfl, _, _, _, _, _, rfl, hp1, D.cl, D.n_right, f_right F, ?_⟩
  exact make_day F.l (F.low + k) F.m F.r _ L.l0 L.r0 z.l z.m z.r (fun n => by rw [frm_shift]; exact hm _) qq
theorem q_lshift {C : Addr} (T : Txt K mg) (D : DSC K mg C) (M : MetOf K C "__lshift__" "DaySet.__lshift__" s_DaySet___lshift__ P_DaySet___lshift__) (M_DaySet : Mak P w K mg base 4 "DaySet" C (sp_init C) []) : Met P w K mg base 6 C "__lshift__" (sp_mv C fun k => -k) [] := by
  obtain ⟨g, fd, M, F, B⟩ := M
  refine met0 D.cl M F B sc_DaySet___lshift__ (fun vs H Q E h => by obtain ⟨_, _, _, rfl, _⟩ := h; rfl) (fun cdv A outer s H vs Q E hr h => ?_)
  obtain ⟨p, k, f, rfl, ⟨F, dx, L, z, hm, hp1⟩, qq⟩ := h
  have nd := sc_DaySet___lshift__.nd
  refine ⟨_, (pss_one (ps_ret (pe_mk M_DaySet hr (by decide) rfl (pa_cons (pe_fld (pv 0) rfl) (pa_cons (pe_op op_sub (pe_fld (pv 0) rfl) (pv 1)) (pa_cons (pe_fld (pv 0) rfl) (pa_cons (pe_fld (pv 0) rfl) pa_nil))))))), ?_⟩
  refine ⟨_, rfl, _, _, _, _, _, rfl, hp1, D.cl, D.n_left, f_left F, _, rfl, _, _, _, _, _, rfl, hp1, D.cl, D.n_low, f_low F, _, rfl, _, _, rfl, rfl, _, rfl, _, _, _, _, _, rfl, hp1, D.cl, D.n_middle, f_middle F, _, rfl, _, _, _, _, _, rfl, hp1, D.cl, D.n_right, f_right F, ?_⟩
  exact make_day F.l (F.low - k) F.m F.r _ L.l0 L.r0 z.l z.m z.r (fun n => by rw [Int.sub_eq_add_neg, frm_shift]; exact hm _) qq
def sp_neg (C : Addr) : Sp := fun vs H Q _ => ∃ (p : Addr) (f : Int → Bool), vs = [.ref p] ∧ IsDay C H p f ∧ ∀ r H', Le H H' → IsDay C H' r (fun n => f (-n)) → H r = none → Q (.ref r) H'
theorem q_neg {C : Addr} (T : Txt K mg) (D : DSC K mg C) (M : MetOf K C "__neg__" "DaySet.__neg__" s_DaySet___neg__ P_DaySet___neg__) (M_DaySet : Mak P w K mg base 4 "DaySet" C (sp_init C) []) : Met P w K mg base 6 C "__neg__" (sp_neg C) [] := by
  obtain ⟨g, fd, M, F, B⟩ := M
  refine met0 D.cl M F B sc_DaySet___neg__ (fun vs H Q E h => by obtain ⟨_, _, rfl, _⟩ := h; rfl) (fun cdv A outer s H vs Q E hr h => ?_)
  obtain ⟨p, f, rfl, ⟨F, dx, L, z, hm, hp1⟩, qq⟩ := h
  have nd := sc_DaySet___neg__.nd
  refine ⟨_, (pss_one (ps_ret (pe_mk M_DaySet hr (by decide) rfl (pa_cons (pe_revS (pe_fld (pv 0) rfl)) (pa_cons (pe_op op_sub pe_int (pe_fld (pv 0) rfl)) (pa_cons (pe_revS (pe_fld (pv 0) rfl)) (pa_cons (pe_revS (pe_fld (pv 0) rfl)) pa_nil))))))), ?_⟩
  refine ⟨_, rfl, _, _, _, _, _, rfl, hp1, D.cl, D.n_right, f_right F, _, rfl, szl z.r, _, rfl, _, _, _, _, _, rfl, hp1, D.cl, D.n_high, f_high F, _, _, rfl, rfl, _, rfl, _, _, _, _, _, rfl, hp1, D.cl, D.n_middle, f_middle F, _, rfl, szl z.m, _, rfl, _, _, _, _, _, rfl, hp1, D.cl, D.n_left, f_left F, _, rfl, szl z.l, ?_⟩
  rw [rowS_rev, rowS_rev, rowS_rev]
  refine make_day F.r.reverse (1 - F.high) F.m.reverse F.l.reverse _ ?_ ?_ ?_ ?_ ?_ (fun n => by rw [frm_neg F L.l0 L.r0]; exact hm _) qq
  · intro e; exact L.r0 (List.reverse_eq_nil_iff.mp e)
  · intro e; exact L.l0 (List.reverse_eq_nil_iff.mp e)
  · rw [List.length_reverse]; exact z.r
  · rw [List.length_reverse]; exact z.m
  · rw [List.length_reverse]; exact z.l
/-! ### none, every, start -/
def sp_kst (C : Addr) (t : Bool) : Sp := fun vs H Q _ => vs = [.ref C] ∧ ∀ r H', Le H H' → IsDay C H' r (fun _ => t) → H r = none → Q (.ref r) H'
theorem mem_kst (t : Bool) (n : Int) : (Frm.mk [t] 0 [] [t]).mem n = t := by
  have c1 : ∀ z, cyc [t] z = t := fun z => by unfold cyc; show [t].getD (z % (1 : Int)).toNat false = t; rw [Int.emod_one]; rfl
  unfold Frm.mem
  simp only [c1]
  split
  · rfl
  · rw [if_pos (by rename_i h; unfold Frm.high at h; simp only [List.length_nil] at h; omega)]
theorem q_none {C : Addr} (T : Txt K mg) (D : DSC K mg C) (M : ClmOf K C "none" "DaySet.none" s_DaySet_none P_DaySet_none) (M_DaySet : Mak P w K mg base 4 "DaySet" C (sp_init C) []) : CMt P w K mg base 6 C "none" (sp_kst C false) := by
  obtain ⟨mc, pp, g, fd, r, cm, F, B⟩ := M
  refine cmt0 r cm F B sc_DaySet_none (fun vs H Q E h => by obtain ⟨rfl, _⟩ := h; rfl) (fun cdv A outer s H vs Q E hr h => ?_)
  obtain ⟨rfl, qq⟩ := h
  have nd := sc_DaySet_none.nd
  refine ⟨_, (pss_one (ps_ret (pe_mk M_DaySet hr (by decide) rfl (pa_cons pe_str (pa_cons pe_int (pa_cons pe_str (pa_cons pe_str pa_nil))))))), ?_⟩
  have := make_day (C := C) (H := H) (Q := Q) (E := C8.E0) [false] 0 [] [false] (fun _ => false) (by simp) (by simp) (by decide) (by decide) (by decide) (mem_kst false) qq
  rw [rowS_0, rowS_nil] at this
  exact this
/-! ### <= -/
def sp_le (C : Addr) : Sp := fun vs H Q _ => ∃ (p q : Addr) (f g : Int → Bool) (c b : Int), vs = [.ref p, .ref q] ∧ IsDay C H p f ∧ IsDay C H q g ∧ Ok f c b ∧ Ok g c b ∧ ∀ e H', (e = true ↔ ∀ n, f n = true → g n = true) → Le H H' → Q (.bl e) H'
theorem q_le {C : Addr} (T : Txt K mg) (D : DSC K mg C) (M : MetOf K C "__le__" "DaySet.__le__" s_DaySet___le__ P_DaySet___le__) (Q_DaySet___sub__ : Met P w K mg base 7 C "__sub__" (sp_bin C fun a b => a && !b) []) (Q_DaySet___bool__ : Met P w K mg base 1 C "__bool__" (sp_bool C) []) : Met P w K mg base 8 C "__le__" (sp_le C) [] := by
  obtain ⟨g, fd, M, F, B⟩ := M
  refine met0 D.cl M F B sc_DaySet___le__ (fun vs H Q E h => by obtain ⟨_, _, _, _, _, _, rfl, _⟩ := h; rfl) (fun cdv A outer s H vs Q E hr h => ?_)
  obtain ⟨p, q, f, g, c, b, rfl, hp, hq, o1, o2, qq⟩ := h
  have nd := sc_DaySet___le__.nd
  refine ⟨_, (pss_one (ps_ret (pe_not_own Q_DaySet___bool__ hr (by decide) (pe_op (op_ownM D.sf Q_DaySet___sub__ hr (by decide)) (pv 0) (pv 1))))), ?_⟩
  obtain ⟨F, dx, L, z, hm, hp1⟩ := id hp
  obtain ⟨G, dy, LG, zG, hmG, hq1⟩ := id hq
  refine ⟨_, rfl, _, rfl, _, _, _, _, _, _, rfl, rfl, hp1, hq1, p, q, f, g, c, b, rfl, hp, hq, o1, o2, fun r H' le hd h0 => ?_⟩
  obtain ⟨G2, dz, LG2, zG2, hmG2, hr1⟩ := id hd
  refine ⟨_, _, _, rfl, hr1, r, _, rfl, hd, fun e he => ⟨e, rfl, qq _ H' ?_ le⟩⟩
  cases e with
  | false =>
    constructor
    · intro _ n hn
      cases hg : g n with
      | true => rfl
      | false =>
        have : false = true := he.mpr ⟨n, by show (f n && !g n) = true; rw [hn, hg]; rfl⟩
        cases this
    · intro _; rfl
  | true =>
    constructor
    · intro h; cases h
    · intro h
      obtain ⟨n, hn⟩ := he.mp rfl
      have hn' : (f n && !g n) = true := hn
      rw [Bool.and_eq_true] at hn'
      have := h n hn'.1
      rw [this] at hn'
      exact absurd hn'.2 (by decide)
end
end Od
end
section
set_option Elab.async false
set_option linter.all false
set_option maxRecDepth 100000
set_option maxHeartbeats 2000000
set_option autoImplicit false
namespace Od
open PySem PySem.Spec PyProof.Rows L2 C8 Day
abbrev s_first_of_rests : Stmt := top 27
abbrev N_first_of_rests : List Str := ["days", "size", "found", "day"]
abbrev P_first_of_rests : List Str := ["days", "size"]
theorem sc_first_of_rests : FnScope N_first_of_rests P_first_of_rests (C8.fnScope s_first_of_rests) := fnScope_by (by decide +kernel)
abbrev s_begun_sums : Stmt := top 29
abbrev N_begun_sums : List Str := ["one", "two", "size", "ups", "starts", "a", "b"]
abbrev P_begun_sums : List Str := ["one", "two", "size"]
theorem sc_begun_sums : FnScope N_begun_sums P_begun_sums (C8.fnScope s_begun_sums) := fnScope_by (by decide +kernel)
/-- the form of a set's object -/
def IsF (C : Addr) (H : Hp) (p : Addr) (F : Frm) : Prop := ∃ dx, Least F ∧ Sz F ∧ H p = some (.ins C dx (fldF F))
theorem IsF.le {C : Addr} {H H' : Hp} {p : Addr} {F : Frm} (d : IsF C H p F) (l : Le H H') : IsF C H' p F := by
  obtain ⟨dx, L, z, e⟩ := d
  exact ⟨dx, L, z, l p _ e⟩
theorem IsF.day {C : Addr} {H : Hp} {p : Addr} {F : Frm} (d : IsF C H p F) : IsDay C H p F.mem := by
  obtain ⟨dx, L, z, e⟩ := d
  exact ⟨F, dx, L, z, fun _ => rfl, e⟩
theorem IsDay.form {C : Addr} {H : Hp} {p : Addr} {f : Int → Bool} (d : IsDay C H p f) : ∃ F, IsF C H p F ∧ F.mem = f := by
  obtain ⟨F, dx, L, z, m, e⟩ := d
  exact ⟨F, ⟨dx, L, z, e⟩, funext m⟩
/-- a table of ints -/
def TabI (kvs : List (Key × V)) (T : Int → Option Int) : Prop := Tab kvs fun k => (T k).map V.int
theorem Tab.to {kvs : List (Key × V)} {T T' : Int → Option V} (t : Tab kvs T) (h : ∀ k, T k = T' k) : Tab kvs T' := by
  have : T = T' := funext h
  subst this
  exact t
theorem TabI.put {kvs : List (Key × V)} {T : Int → Option Int} (t : TabI kvs T) (k v : Int) : TabI (putK kvs (.inl k) (.int v)) fun j => if j = k then some v else T j :=
  (Tab.put t k (.int v)).to fun j => by
    by_cases c : j = k
    · simp [c]
    · simp [c]
/-- the first of each rest -/
structure FirstT (ds : List Int) (size : Int) (T : Int → Option Int) : Prop where
  is : ∀ k v, T k = some v → v ∈ ds ∧ v % size = k
  le : ∀ d ∈ ds, ∃ v, T (d % size) = some v ∧ v ≤ d
section
variable {P : Program} {w : World} {K : PySem.W.Frag} {mg : Str → Option Value} {base : Heap}
def sp_first : Sp := fun vs H Q _ => ∃ (p : Addr) (ds : List Int) (size : Int), vs = [.ref p, .int size] ∧ H p = some (.lst (ds.map V.int)) ∧ 0 < size ∧ size ≤ 1000000 ∧
  ∀ q H' kvs T, Le H H' → H q = none → H' q = some (.dK kvs) → TabI kvs T → FirstT ds size T → Q (.ref q) H'
theorem c_first (T : Txt K mg) (F : DefOf K mg "first_of_rests" s_first_of_rests P_first_of_rests) : Cal P w K mg base 1 "first_of_rests" sp_first [] := by
  obtain ⟨f, fd, F, B⟩ := F
  refine cal0 F B .nil sc_first_of_rests (fun vs H Q E h => by obtain ⟨_, _, _, rfl, _⟩ := h; rfl) (fun cdv A outer s H vs Q E hr h => ?_)
  obtain ⟨p, ds, size, rfl, hp, s0, s1, q⟩ := h
  have nd := sc_first_of_rests.nd
  refine ⟨_, (pss_cons (ps_set (i := 2) nd rfl (Or.inl rfl) pe_dnewK)
      (C8.pss_cut (ps_for PassesOwn.never rfl (pi_list (pv 0)) (pg_name (i := 3) nd rfl (Or.inl rfl)) (pss_one (ps_if (pt_cmpR op_lt (pv 3) (pe_dget2 (Room.u1 hr) (pv 2) (pe_op op_mod (pv 3) (pv 1)) (pe_op op_add (pv 3) pe_int) ⟨by rfl, by rfl, by rfl, by rfl⟩) (nomark _)) (pss_one (ps_dput (Room.u1 hr) (pv 2) (pe_op op_mod (pv 3) (pv 1)) (pv 3) rfl)) pss_nil)))
      (pss_one (ps_ret (pv 2))))), ?_⟩
  intro d hd
  have hpd : p ≠ d := fun e => by rw [e, hd] at hp; cases hp
  refine ⟨fun σ' H' => Le H H' ∧ ∃ kvs T x, σ' = [some (.ref p), some (.int size), some (.ref d), x] ∧ H' d = some (.dK kvs) ∧ TabI kvs T ∧ FirstT ds size T, ?_, ?_⟩
  · refine ⟨_, rfl, _, rfl, ⟨_, .of (by rw [upd_ne hpd]; exact hp)⟩, ?_⟩
    refine for_list (xs := ds.map V.int) (fun i σ' H' => Le H H' ∧ ∃ kvs T x, σ' = [some (.ref p), some (.int size), some (.ref d), x] ∧ H' d = some (.dK kvs) ∧ TabI kvs T ∧ FirstT (ds.take i) size T) ?_ ?_ ?_ ?_
    · exact ⟨Le.new hd, [], fun _ => none, _, rfl, upd_self, Tab.nil, ⟨fun k v h => (by cases h), fun d h => (by simp at h)⟩⟩
    · rintro i σ' H' _ ⟨le, _⟩
      exact .of (le p _ hp)
    · rintro i x σ' H' hx ⟨le, kvs, T, y, rfl, e, tb, ft⟩
      rw [List.getElem?_map] at hx
      obtain ⟨v, hv, rfl⟩ := Option.map_eq_some_iff.mp hx
      have tk : ∀ z, z ∈ ds.take (i + 1) ↔ z ∈ ds.take i ∨ z = v := fun z => by
        rw [List.take_add_one, hv, List.mem_append]
        simp
      have hm1 := Int.emod_nonneg v (show size ≠ 0 by omega)
      have hm2 := Int.emod_lt_of_pos v s0
      refine ⟨_, rfl, _, rfl, _, rfl, .inl ⟨kvs, .inl e⟩, _, rfl, _, rfl, _, _, rfl, rfl, s0, _, rfl, _, _, rfl, rfl, _, .k (k := .inl (v % size)) e, ?_⟩
      rw [tb.val]
      have key : ∀ z : Int, ((T (v % size)).map V.int).getD (.int (v + 1)) = .int z → (∃ u, T (v % size) = some u ∧ z = u) ∨ (T (v % size) = none ∧ z = v + 1) := fun z hz => by
        cases h : T (v % size) with
        | none => rw [h] at hz; exact .inr ⟨rfl, (V.int.inj hz).symm⟩
        | some u => rw [h] at hz; exact .inl ⟨u, rfl, (V.int.inj hz).symm⟩
      have ex : ∃ z : Int, ((T (v % size)).map V.int).getD (.int (v + 1)) = .int z := by
        cases T (v % size) with
        | none => exact ⟨_, rfl⟩
        | some u => exact ⟨u, rfl⟩
      obtain ⟨z, hz⟩ := ex
      have kz := key z hz
      refine ⟨_, _, rfl, hz, _, rfl, ?_⟩
      refine ite2 (fun c => ?_) (fun c => ?_)
      · have hlt : v < z := of_decide_eq_true c
        refine ⟨_, rfl, _, rfl, _, rfl, _, rfl, _, _, rfl, rfl, s0, _, _, rfl, .k (k := .inl (v % size)) e ?_, le.upd hd, _, fun k => if k = v % size then some v else T k, _, rfl, upd_self, ?_, ?_⟩
        · have := tb.len (lo := 0) (n := size.toNat) fun k u hk => by
            obtain ⟨m, hm, rfl⟩ := Option.map_eq_some_iff.mp hk
            have := (ft.is k m hm).2
            have h1 := Int.emod_nonneg m (show size ≠ 0 by omega)
            have h2 := Int.emod_lt_of_pos m s0
            omega
          have : sizeLine = 16777216 := sizeLine_eq
          omega
        · exact TabI.put tb (v % size) v
        · constructor
          · intro k u hk
            by_cases c : k = v % size
            · have hk : (if k = v % size then some v else T k) = some u := hk
              rw [if_pos c] at hk
              cases hk
              exact ⟨(tk v).mpr (.inr rfl), c.symm⟩
            · have hk : (if k = v % size then some v else T k) = some u := hk
              rw [if_neg c] at hk
              have := ft.is k u hk
              exact ⟨(tk u).mpr (.inl this.1), this.2⟩
          · intro u hu
            rcases (tk u).mp hu with hu | rfl
            · obtain ⟨m, hm, hle⟩ := ft.le u hu
              by_cases c : u % size = v % size
              · refine ⟨v, if_pos c, ?_⟩
                rcases kz with ⟨y, hy, rfl⟩ | ⟨hy, _⟩
                · rw [c, hy] at hm
                  cases hm
                  omega
                · rw [c, hy] at hm
                  cases hm
              · exact ⟨m, (if_neg c).trans hm, hle⟩
            · exact ⟨u, if_pos rfl, Int.le_refl _⟩
      · have hge : ¬ v < z := fun h => c (decide_eq_true h)
        refine ⟨le, kvs, T, _, rfl, e, tb, ?_, ?_⟩
        · intro k u hk
          have := ft.is k u hk
          exact ⟨(tk u).mpr (.inl this.1), this.2⟩
        · intro u hu
          rcases (tk u).mp hu with hu | rfl
          · exact ft.le u hu
          · rcases kz with ⟨y, hy, rfl⟩ | ⟨_, rfl⟩
            · exact ⟨z, hy, by omega⟩
            · omega
    · rintro σ' H' ⟨le, kvs, T, x, rfl, e, tb, ft⟩
      rw [List.length_map, List.take_of_length_le (Nat.le_refl _)] at ft
      exact ⟨le, kvs, T, x, rfl, e, tb, ft⟩
  · rintro σ' H' ⟨le, kvs, T, x, rfl, e, tb, ft⟩
    exact ⟨_, rfl, q d H' kvs T le hd e tb ft⟩
theorem TabI.vals {kvs : List (Key × V)} {T : Int → Option Int} (t : TabI kvs T) : ∃ xs : List Int, kvs.map (·.2) = xs.map V.int ∧ (∀ v, v ∈ xs ↔ ∃ k, T k = some v) ∧ xs.length = kvs.length := by
  have h : ∀ l : List (Key × V), (∀ e ∈ l, e ∈ kvs) → ∃ xs : List Int, l.map (·.2) = xs.map V.int ∧ xs.length = l.length := by
    intro l
    induction l with
    | nil => intro _; exact ⟨[], rfl, rfl⟩
    | cons e l ih =>
      intro hl
      obtain ⟨xs, h1, h2⟩ := ih fun a ha => hl a (List.mem_cons_of_mem _ ha)
      obtain ⟨k, hk, hT⟩ := t.ent e (hl e List.mem_cons_self)
      obtain ⟨v, hv, e2⟩ := Option.map_eq_some_iff.mp hT
      exact ⟨v :: xs, by rw [List.map_cons, List.map_cons, h1, e2], by rw [List.length_cons, List.length_cons, h2]⟩
  obtain ⟨xs, h1, h2⟩ := h kvs fun _ h => h
  refine ⟨xs, h1, fun v => ?_, h2⟩
  have h3 : v ∈ xs ↔ V.int v ∈ kvs.map (·.2) := by
    rw [h1, List.mem_map]
    constructor
    · intro hv
      exact ⟨v, hv, rfl⟩
    · rintro ⟨a, ha, e⟩
      rw [← V.int.inj e]
      exact ha
  rw [h3, List.mem_map]
  constructor
  · rintro ⟨e, he, e2⟩
    obtain ⟨k, hk, hT⟩ := t.ent e he
    obtain ⟨u, hu, e3⟩ := Option.map_eq_some_iff.mp hT
    rw [e2] at e3
    exact ⟨k, by rw [hu, V.int.inj e3]⟩
  · rintro ⟨k, hk⟩
    exact ⟨_, Tab.mem t (k := k) (v := .int v) (by show (T k).map V.int = _; rw [hk]; rfl), rfl⟩
theorem Le.unlock {H H' : Hp} {d : Addr} {od : Obj} {u : HO} (h : H d = some u) (l : Le (L2.upd H d (.frz od u)) H') : Le H (L2.upd H' d u) := fun a o e => by
  by_cases c : a = d
  · subst c
    rw [upd_self, ← e, h]
  · rw [upd_ne c]
    exact l a o (by rw [upd_ne c]; exact e)
theorem Le.lock {H : Hp} {d : Addr} {od : Obj} {u : HO} : LeX d H (L2.upd H d (.frz od u)) := fun a o c h => by rw [upd_ne c]; exact h
/-- sums that begin: a from one's low on, b from two's high on -/
structure Begun (F G : Frm) (size : Int) (xs : List Int) : Prop where
  is : ∀ x ∈ xs, ∃ a b, F.low ≤ a ∧ a < F.high + size ∧ F.mem a = true ∧ G.high ≤ b ∧ b < G.high + size ∧ G.mem b = true ∧ x = a + b
  le : ∀ a b, F.low ≤ a → F.mem a = true → G.high ≤ b → G.mem b = true → ∃ x ∈ xs, x ≤ a + b ∧ x % size = (a + b) % size
structure Bnd (F : Frm) : Prop where
  lo : -5000000 ≤ F.low
  hi : F.high ≤ 5000000
theorem up_size {F : Frm} (L : Least F) {size : Int} (s0 : 0 < size) (hs : size % (F.r.length : Int) = 0) : Up F.mem size F.high := fun n hn => by
  have h0 := prim_len L.r0
  obtain ⟨k, hk⟩ := Int.dvd_of_emod_eq_zero hs
  have k0 : 0 < k := by
    rcases Int.lt_or_le 0 k with h | h
    · exact h
    · have := Int.mul_nonpos_of_nonneg_of_nonpos (show (0 : Int) ≤ F.r.length by omega) h
      omega
  have := (L.up_high.mulN (by omega) k.toNat) n hn
  rw [show ((k.toNat : Nat) : Int) = k by omega] at this
  rw [hk, Int.mul_comm]
  exact this
theorem dn_size {F : Frm} (L : Least F) {size : Int} (s0 : 0 < size) (hs : size % (F.l.length : Int) = 0) : Dn F.mem size F.low := fun n hn => by
  have h0 := prim_len L.l0
  obtain ⟨k, hk⟩ := Int.dvd_of_emod_eq_zero hs
  have k0 : 0 < k := by
    rcases Int.lt_or_le 0 k with h | h
    · exact h
    · have := Int.mul_nonpos_of_nonneg_of_nonpos (show (0 : Int) ≤ F.l.length by omega) h
      omega
  have := (L.dn_low.mulN (by omega) k.toNat) n hn
  rw [show ((k.toNat : Nat) : Int) = k by omega] at this
  rw [hk, Int.mul_comm]
  exact this
/-- a day far up, brought down -/
theorem down_to {f : Int → Bool} {size hi : Int} (s0 : 0 < size) (h : Up f size hi) {a : Int} (ha : hi ≤ a) (hf : f a = true) : ∃ a', hi ≤ a' ∧ a' < hi + size ∧ a' ≤ a ∧ a' % size = a % size ∧ f a' = true := by
  have h1 := Int.emod_nonneg (a - hi) (show size ≠ 0 by omega)
  have h2 := Int.emod_lt_of_pos (a - hi) s0
  have h3 := Int.mul_ediv_add_emod (a - hi) size
  have h4 : 0 ≤ (a - hi) / size := Int.ediv_nonneg (by omega) (by omega)
  have h5 : hi + (a - hi) % size = a - ((a - hi) / size) * size := by rw [Int.mul_comm] at h3; omega
  have h6 : hi + (a - hi) % size ≤ a := by
    have := Int.mul_nonneg h4 (show 0 ≤ size by omega)
    omega
  refine ⟨hi + (a - hi) % size, by omega, by omega, h6, ?_, ?_⟩
  · rw [h5, Int.sub_eq_add_neg, ← Int.neg_mul, Int.add_mul_emod_self_right]
  · have := h.nat s0 ((a - hi) / size).toNat (hi + (a - hi) % size) (by omega)
    rw [show ((((a - hi) / size).toNat : Nat) : Int) = (a - hi) / size by omega] at this
    rw [← this, h5]
    rw [show a - (a - hi) / size * size + (a - hi) / size * size = a by omega]
    exact hf
theorem up_to {f : Int → Bool} {size lo : Int} (s0 : 0 < size) (h : Dn f size lo) {a : Int} (ha : a < lo) (hf : f a = true) : ∃ a', lo - size ≤ a' ∧ a' < lo ∧ a ≤ a' ∧ a' % size = a % size ∧ f a' = true := by
  have h1 := Int.emod_nonneg (lo - 1 - a) (show size ≠ 0 by omega)
  have h2 := Int.emod_lt_of_pos (lo - 1 - a) s0
  have h3 := Int.mul_ediv_add_emod (lo - 1 - a) size
  have h4 : 0 ≤ (lo - 1 - a) / size := Int.ediv_nonneg (by omega) (by omega)
  have h5 : lo - 1 - (lo - 1 - a) % size = a + ((lo - 1 - a) / size) * size := by rw [Int.mul_comm] at h3; omega
  have h6 : a ≤ lo - 1 - (lo - 1 - a) % size := by
    have := Int.mul_nonneg h4 (show 0 ≤ size by omega)
    omega
  refine ⟨lo - 1 - (lo - 1 - a) % size, by omega, by omega, h6, ?_, ?_⟩
  · rw [h5, Int.add_mul_emod_self_right]
  · have := h.nat s0 ((lo - 1 - a) / size).toNat (lo - 1 - (lo - 1 - a) % size) (by omega)
    rw [show ((((lo - 1 - a) / size).toNat : Nat) : Int) = (lo - 1 - a) / size by omega] at this
    rw [← this, h5]
    rw [show a + (lo - 1 - a) / size * size - (lo - 1 - a) / size * size = a by omega]
    exact hf
def addV : V → V → V
  | .int a, .int b => .int (a + b)
  | _, _ => .non
theorem addV_flat (xs ys : List Int) : ((xs.map V.int).flatMap fun x => (ys.map V.int).map fun y => addV x y) = (xs.flatMap fun a => ys.map fun b => a + b).map V.int := by
  induction xs with
  | nil => rfl
  | cons a xs ih =>
    rw [List.map_cons, List.flatMap_cons, List.flatMap_cons, List.map_append, ih, List.map_map, List.map_map]
    rfl
def sp_begun (C : Addr) : Sp := fun vs H Q _ => ∃ (p q : Addr) (F G : Frm) (size : Int), vs = [.ref p, .ref q, .int size] ∧ IsF C H p F ∧ IsF C H q G ∧ 0 < size ∧ size ≤ 2000 ∧ size % (F.r.length : Int) = 0 ∧ size % (G.r.length : Int) = 0 ∧ Bnd F ∧ Bnd G ∧
  ∀ d H' (xs : List Int), Le H H' → H d = none → H' d = some (.lst (xs.map V.int)) → xs.length ≤ 4000000 → Begun F G size xs → Q (.ref d) H'
theorem c_begun {C : Addr} (T : Txt K mg) (D : DSC K mg C) (F : DefOf K mg "begun_sums" s_begun_sums P_begun_sums) (Q_DaySet_days_in : Met P w K mg base 2 C "days_in" (sp_days_in C) []) (C_first_of_rests : Cal P w K mg base 1 "first_of_rests" sp_first []) : Cal P w K mg base 3 "begun_sums" (sp_begun C) [] := by
  obtain ⟨f, fd, F, B⟩ := F
  refine cal0 F B .nil sc_begun_sums (fun vs H Q E h => by obtain ⟨_, _, _, _, _, rfl, _⟩ := h; rfl) (fun cdv A outer s H vs Q E hr h => ?_)
  obtain ⟨p, q, F, G, size, rfl, hp, hq, s0, s1, sF, sG, bF, bG, qq⟩ := h
  have nd := sc_begun_sums.nd
  refine ⟨_, (pss_cons (ps_set (i := 3) nd rfl (Or.inr rfl) (pe_c C_first_of_rests hr (by decide) rfl (pa_cons (pe_mt Q_DaySet_days_in hr (by decide) (pv 1) (pa_cons (pe_fld (pv 1) rfl) (pa_cons (pe_op op_add (pe_fld (pv 1) rfl) (pv 2)) pa_nil))) (pa_cons (pv 2) pa_nil))))
      (pss_cons (ps_set (i := 4) nd rfl (Or.inl rfl) (pe_c C_first_of_rests hr (by decide) rfl (pa_cons (pe_mt Q_DaySet_days_in hr (by decide) (pv 0) (pa_cons (pe_fld (pv 0) rfl) (pa_cons (pe_op op_add (pe_fld (pv 0) rfl) (pv 2)) pa_nil))) (pa_cons (pv 2) pa_nil))))
      (pss_one (ps_ret (pe_lock (pe_lock (pe_lc2 (own := [("a", 5), ("b", 6)]) (vs1 := [6]) (g := gName 5) (g1 := gName 6) (by rfl) nd (pi_values (pv 4)) (blkOk_by (own := [("a", 5), ("b", 6)]) (N := N_begun_sums) (sc := C8.fnScope s_begun_sums) (by decide +kernel)) (by decide) (fun _ _ _ _ _ => pg_name (i := 5) nd rfl (Or.inl rfl)) (fun _ _ _ _ _ => pts_nil) (fun _ _ _ _ _ => (pi_values (pv 3))) (fun _ _ _ _ _ => pg_name (i := 6) nd rfl (Or.inl rfl)) (fun _ _ _ _ _ => pts_nil) (fun _ _ _ _ _ => (pe_op op_add (pv 5) (pv 6)))))))))), ?_⟩
  obtain ⟨dx, L, z, hp1⟩ := id hp
  obtain ⟨dy, LG, zG, hq1⟩ := id hq
  have b1 := bF.lo; have b2 := bF.hi; have b3 := bG.lo; have b4 := bG.hi
  have lhF := F.low_high
  have lhG := G.low_high
  refine ⟨_, rfl, _, _, _, rfl, hq1, by rfl, _, rfl, _, _, _, _, _, rfl, hq1, D.cl, D.n_high, f_high G, _, rfl, _, _, _, _, _, rfl, hq1, D.cl, D.n_high, f_high G, _, rfl, _, _, rfl, rfl, q, _, _, _, rfl, hq.day, ⟨by omega, by omega, by omega, by omega⟩, by omega, ?_⟩
  intro d1 H1 l1 n1 e1
  refine ⟨_, rfl, d1, _, size, rfl, e1, s0, by omega, ?_⟩
  intro du H2 ku Tu l2 n2 eu tu fu
  have hp2 := (hp.le l1).le l2
  obtain ⟨_, _, _, hp21⟩ := id hp2
  refine ⟨_, rfl, _, _, _, rfl, hp21, by rfl, _, rfl, _, _, _, _, _, rfl, hp21, D.cl, D.n_low, f_low F, _, rfl, _, _, _, _, _, rfl, hp21, D.cl, D.n_high, f_high F, _, rfl, _, _, rfl, rfl, p, _, _, _, rfl, hp2.day, ⟨by omega, by omega, by omega, by omega⟩, by omega, ?_⟩
  intro d3 H3 l3 n3 e3
  refine ⟨_, rfl, d3, _, size, rfl, e3, s0, by omega, ?_⟩
  intro ds H4 ks Ts l4 n4 es ts fs
  have eu4 : H4 du = some (.dK ku) := l4 _ _ (l3 _ _ eu)
  have hne : ds ≠ du := fun e => by rw [e] at n4; rw [l3 _ _ eu] at n4; cases n4
  refine ⟨du, .dK ku, eu4, trivial, fun ou => ?_⟩
  refine ⟨ds, .dK ks, by rw [upd_ne hne]; exact es, trivial, fun os => ?_⟩
  have eL : upd (upd H4 du (.frz ou (.dK ku))) ds (.frz os (.dK ks)) ds = some (.frz os (.dK ks)) := upd_self
  have eL2 : upd (upd H4 du (.frz ou (.dK ku))) ds (.frz os (.dK ks)) du = some (.frz ou (.dK ku)) := by rw [upd_ne hne.symm, upd_self]
  obtain ⟨xs, hxs, mxs, lxs⟩ := ts.vals
  obtain ⟨ys, hys, mys, lys⟩ := tu.vals
  have lks : ks.length ≤ size.toNat := Tab.len (lo := 0) ts fun k v hk => by
    obtain ⟨m, hm, rfl⟩ := Option.map_eq_some_iff.mp hk
    have := (fs.is k m hm).2
    have h1 := Int.emod_nonneg m (show size ≠ 0 by omega)
    have h2 := Int.emod_lt_of_pos m s0
    omega
  have lku : ku.length ≤ size.toNat := Tab.len (lo := 0) tu fun k v hk => by
    obtain ⟨m, hm, rfl⟩ := Option.map_eq_some_iff.mp hk
    have := (fu.is k m hm).2
    have h1 := Int.emod_nonneg m (show size ≠ 0 by omega)
    have h2 := Int.emod_lt_of_pos m s0
    omega
  have hprod : xs.length * ys.length ≤ 4000000 := by
    have : xs.length * ys.length ≤ 2000 * 2000 := Nat.mul_le_mul (by omega) (by omega)
    omega
  refine ⟨_, rfl, ds, os, ks, rfl, eL, fun d hd => ?_⟩
  refine lc2_pure (XS := xs.map V.int) (YS := ys.map V.int) (J1 := Itd du ou ku) (by rw [List.length_map, lxs]; exact walk_values) (by rw [← hxs]; exact gives_vals) (by rw [List.length_map, lys]; exact walk_values) (by rw [← hys]; exact gives_vals) hd (fun H le => le _ _ eL) (fun H le => le _ _ eL2) ?_ addV (fun _ => rfl) (fun _ _ => rfl) ?_ ?_ ?_
  · rw [List.length_map, List.length_map]; exact le_szl _ (by omega)
  · intro x H5 _ le R hR
    exact ⟨_, rfl, du, ou, ku, rfl, le _ _ eL2, hR⟩
  · intro x y H5 hx hy le N hN
    obtain ⟨a, _, rfl⟩ := List.mem_map.mp hx
    obtain ⟨b, _, rfl⟩ := List.mem_map.mp hy
    exact ⟨_, rfl, _, rfl, a, b, rfl, rfl, hN⟩
  · intro H5 le e5
    rw [addV_flat] at e5
    have le1 := Le.unlock (by rw [upd_ne hne]; exact es) le
    have eu5 := le1 du _ upd_self
    have le2 := Le.unlock eu4 le1
    have nd1 : d ≠ ds := fun c => by rw [c, eL] at hd; cases hd
    have nd2 : d ≠ du := fun c => by rw [c, eL2] at hd; cases hd
    have hd4 : H4 d = none := by rw [upd_ne nd1, upd_ne nd2] at hd; exact hd
    refine ⟨le _ _ eL, eu5, ?_⟩
    refine qq d _ (xs.flatMap fun a => ys.map fun b => a + b) ((((l1.trans l2).trans l3).trans l4).trans le2) ((((l1.trans l2).trans l3).trans l4).none hd4) (by rw [upd_ne nd2, upd_ne nd1]; exact e5) ?_ ?_
    · have := flat_len (fun a => ys.map fun b => a + b) ys.length (fun x => by rw [List.length_map]; exact Nat.le_refl _) xs
      omega
    · constructor
      · intro x hx
        obtain ⟨a, ha, hx⟩ := List.mem_flatMap.mp hx
        obtain ⟨b, hb, rfl⟩ := List.mem_map.mp hx
        obtain ⟨k, hk⟩ := (mxs a).mp ha
        obtain ⟨j, hj⟩ := (mys b).mp hb
        have h1 := mem_daysIn.mp (fs.is k a hk).1
        have h2 := mem_daysIn.mp (fu.is j b hj).1
        exact ⟨a, b, h1.1, h1.2.1, h1.2.2, h2.1, h2.2.1, h2.2.2, rfl⟩
      · intro a b ha hfa hb hgb
        have ea : ∃ a', F.low ≤ a' ∧ a' < F.high + size ∧ a' ≤ a ∧ a' % size = a % size ∧ F.mem a' = true := by
          by_cases c : a < F.high + size
          · exact ⟨a, ha, c, Int.le_refl _, rfl, hfa⟩
          · obtain ⟨a', h1, h2, h3, h4, h5⟩ := down_to s0 (up_size L s0 sF) (a := a) (by omega) hfa
            exact ⟨a', by omega, h2, h3, h4, h5⟩
        obtain ⟨a', a1, a2, a3, a4, a5⟩ := ea
        obtain ⟨b', b1, b2, b3, b4, b5⟩ := down_to s0 (up_size LG s0 sG) hb hgb
        obtain ⟨v, hv, hv2⟩ := fs.le a' (mem_daysIn.mpr ⟨a1, a2, a5⟩)
        obtain ⟨w, hw, hw2⟩ := fu.le b' (mem_daysIn.mpr ⟨b1, b2, b5⟩)
        refine ⟨v + w, List.mem_flatMap.mpr ⟨v, (mxs v).mpr ⟨_, hv⟩, List.mem_map.mpr ⟨w, (mys w).mpr ⟨_, hw⟩, rfl⟩⟩, by omega, ?_⟩
        have e1 := (fs.is _ v hv).2
        have e2 := (fu.is _ w hw).2
        rw [Int.add_emod, e1, e2, a4, b4, ← Int.add_emod]
end
end Od
end
section
set_option Elab.async false
set_option linter.all false
set_option maxRecDepth 100000
set_option maxHeartbeats 2000000
set_option autoImplicit false
namespace Od
open PySem PySem.Spec PyProof.Rows L2 C8 Day
abbrev s_whole_rests : Stmt := top 30
abbrev N_whole_rests : List Str := ["one", "two", "size", "ups", "downs", "a", "b"]
abbrev P_whole_rests : List Str := ["one", "two", "size"]
theorem sc_whole_rests : FnScope N_whole_rests P_whole_rests (C8.fnScope s_whole_rests) := fnScope_by (by decide +kernel)
abbrev s_firsts_of : Stmt := top 28
abbrev N_firsts_of : List Str := ["one", "two", "size"]
abbrev P_firsts_of : List Str := ["one", "two", "size"]
theorem sc_firsts_of : FnScope N_firsts_of P_firsts_of (C8.fnScope s_firsts_of) := fnScope_by (by decide +kernel)
def modV (size : Int) : V → V → V
  | .int a, .int b => .int ((a + b) % size)
  | _, _ => .non
theorem modV_flat (size : Int) (xs ys : List Int) : ((xs.map V.int).flatMap fun x => (ys.map V.int).map fun y => modV size x y) = (xs.flatMap fun a => ys.map fun b => (a + b) % size).map V.int := by
  induction xs with
  | nil => rfl
  | cons a xs ih =>
    rw [List.map_cons, List.flatMap_cons, List.flatMap_cons, List.map_append, ih, List.map_map, List.map_map]
    rfl
theorem daysIn_len (f : Int → Bool) (a b : Int) : (daysIn f a b).length ≤ (b - a).toNat := by
  unfold daysIn
  have h1 := List.length_filter_le f ((List.range (b - a).toNat).map fun i => a + (i : Nat))
  rw [List.length_map, List.length_range] at h1
  exact h1
def WholeR (F G : Frm) (size x : Int) : Prop := ∃ a b, F.high ≤ a ∧ a < F.high + size ∧ F.mem a = true ∧ G.low - size ≤ b ∧ b < G.low ∧ G.mem b = true ∧ x = (a + b) % size
def Beg (F G : Frm) (n : Int) : Prop := (∃ a b, F.low ≤ a ∧ F.mem a = true ∧ G.high ≤ b ∧ G.mem b = true ∧ n = a + b) ∨ ∃ a b, F.high ≤ a ∧ F.mem a = true ∧ G.low ≤ b ∧ G.mem b = true ∧ n = a + b
structure Firsts (F G : Frm) (size : Int) (T : Int → Option Int) : Prop where
  is : ∀ k v, T k = some v → v % size = k ∧ Beg F G v ∧ F.low + G.low ≤ v ∧ v < F.high + G.high + 2 * size
  le : ∀ n, Beg F G n → ∃ v, T (n % size) = some v ∧ v ≤ n
section
variable {P : Program} {w : World} {K : PySem.W.Frag} {mg : Str → Option Value} {base : Heap}
def sp_whole (C : Addr) : Sp := fun vs H Q _ => ∃ (p q : Addr) (F G : Frm) (size : Int), vs = [.ref p, .ref q, .int size] ∧ IsF C H p F ∧ IsF C H q G ∧ 0 < size ∧ size ≤ 2000 ∧ Bnd F ∧ Bnd G ∧
  ∀ d H' (xs : List Int), Le H H' → H d = none → H' d = some (.lst (xs.map V.int)) → xs.length ≤ 4000000 → (∀ x, x ∈ xs ↔ WholeR F G size x) → Q (.ref d) H'
theorem c_whole {C : Addr} (T : Txt K mg) (D : DSC K mg C) (F : DefOf K mg "whole_rests" s_whole_rests P_whole_rests) (Q_DaySet_days_in : Met P w K mg base 2 C "days_in" (sp_days_in C) []) : Cal P w K mg base 3 "whole_rests" (sp_whole C) [] := by
  obtain ⟨f, fd, F, B⟩ := F
  refine cal0 F B .nil sc_whole_rests (fun vs H Q E h => by obtain ⟨_, _, _, _, _, rfl, _⟩ := h; rfl) (fun cdv A outer s H vs Q E hr h => ?_)
  obtain ⟨p, q, F, G, size, rfl, hp, hq, s0, s1, bF, bG, qq⟩ := h
  have nd := sc_whole_rests.nd
  refine ⟨_, (pss_cons (ps_set (i := 3) nd rfl (Or.inl rfl) (pe_mt Q_DaySet_days_in hr (by decide) (pv 0) (pa_cons (pe_fld (pv 0) rfl) (pa_cons (pe_op op_add (pe_fld (pv 0) rfl) (pv 2)) pa_nil))))
      (pss_cons (ps_set (i := 4) nd rfl (Or.inr rfl) (pe_mt Q_DaySet_days_in hr (by decide) (pv 1) (pa_cons (pe_op op_sub (pe_fld (pv 1) rfl) (pv 2)) (pa_cons (pe_fld (pv 1) rfl) pa_nil))))
      (pss_one (ps_ret (pe_lc2 (own := [("a", 5), ("b", 6)]) (vs1 := [6]) (g := gName 5) (g1 := gName 6) (by rfl) nd (pi_list (pv 3)) (blkOk_by (own := [("a", 5), ("b", 6)]) (N := N_whole_rests) (sc := C8.fnScope s_whole_rests) (by decide +kernel)) (by decide) (fun _ _ _ _ _ => pg_name (i := 5) nd rfl (Or.inl rfl)) (fun _ _ _ _ _ => pts_nil) (fun _ _ _ _ _ => (pi_listK (K := K) rfl (pv 4))) (fun _ _ _ _ _ => pg_name (i := 6) nd rfl (Or.inl rfl)) (fun _ _ _ _ _ => pts_nil) (fun _ _ _ _ _ => (pe_op op_mod (pe_op op_add (pv 5) (pv 6)) (pv 2)))))))), ?_⟩
  obtain ⟨dx, L, z, hp1⟩ := id hp
  have b1 := bF.lo; have b2 := bF.hi; have b3 := bG.lo; have b4 := bG.hi
  have lhF := F.low_high
  have lhG := G.low_high
  refine ⟨_, rfl, _, _, _, rfl, hp1, by rfl, _, rfl, _, _, _, _, _, rfl, hp1, D.cl, D.n_high, f_high F, _, rfl, _, _, _, _, _, rfl, hp1, D.cl, D.n_high, f_high F, _, rfl, _, _, rfl, rfl, p, _, _, _, rfl, hp.day, ⟨by omega, by omega, by omega, by omega⟩, by omega, ?_⟩
  intro d1 H1 l1 n1 e1
  have hq2 := hq.le l1
  obtain ⟨dy, LG, zG, hq1⟩ := id hq2
  refine ⟨_, rfl, _, _, _, rfl, hq1, by rfl, _, rfl, _, _, _, _, _, rfl, hq1, D.cl, D.n_low, f_low G, _, rfl, _, _, rfl, rfl, _, rfl, _, _, _, _, _, rfl, hq1, D.cl, D.n_low, f_low G, q, _, _, _, rfl, hq2.day, ⟨by omega, by omega, by omega, by omega⟩, by omega, ?_⟩
  intro d2 H2 l2 n2 e2
  have e12 := l2 _ _ e1
  refine ⟨_, rfl, _, rfl, ⟨_, .of e12⟩, fun d hd => ?_⟩
  have hl1 := daysIn_len F.mem F.high (F.high + size)
  have hl2 := daysIn_len G.mem (G.low - size) G.low
  have hprod : (daysIn F.mem F.high (F.high + size)).length * (daysIn G.mem (G.low - size) G.low).length ≤ 4000000 := by
    have : (daysIn F.mem F.high (F.high + size)).length * (daysIn G.mem (G.low - size) G.low).length ≤ 2000 * 2000 := Nat.mul_le_mul (by omega) (by omega)
    omega
  refine lc2_pure (XS := (daysIn F.mem F.high (F.high + size)).map V.int) (YS := (daysIn G.mem (G.low - size) G.low).map V.int) (J1 := Itl K d2) walk_list gives_at walk_list gives_at hd (fun H le => .of (le _ _ e12)) (fun H le => .of (le _ _ e2)) ?_ (modV size) (fun _ => rfl) (fun _ _ => rfl) ?_ ?_ ?_
  · rw [List.length_map, List.length_map]; exact le_szl _ (by omega)
  · intro x H5 _ le R hR
    exact ⟨_, rfl, d2, rfl, ⟨_, .of (le _ _ e2)⟩, hR⟩
  · intro x y H5 hx hy le N hN
    obtain ⟨a, _, rfl⟩ := List.mem_map.mp hx
    obtain ⟨b, _, rfl⟩ := List.mem_map.mp hy
    exact ⟨_, rfl, _, rfl, a, b, rfl, rfl, _, rfl, _, _, rfl, rfl, s0, hN⟩
  · intro H5 le e5
    rw [modV_flat] at e5
    refine qq d _ _ ((l1.trans l2).trans le) ((l1.trans l2).none hd) e5 ?_ ?_
    · have := flat_len (fun a => (daysIn G.mem (G.low - size) G.low).map fun b => (a + b) % size) (daysIn G.mem (G.low - size) G.low).length (fun x => by rw [List.length_map]; exact Nat.le_refl _) (daysIn F.mem F.high (F.high + size))
      omega
    · intro x
      rw [List.mem_flatMap]
      constructor
      · rintro ⟨a, ha, hx⟩
        obtain ⟨b, hb, rfl⟩ := List.mem_map.mp hx
        have h1 := mem_daysIn.mp ha
        have h2 := mem_daysIn.mp hb
        exact ⟨a, b, h1.1, h1.2.1, h1.2.2, h2.1, h2.2.1, h2.2.2, rfl⟩
      · rintro ⟨a, b, h1, h2, h3, h4, h5, h6, rfl⟩
        exact ⟨a, mem_daysIn.mpr ⟨h1, h2, h3⟩, List.mem_map.mpr ⟨b, mem_daysIn.mpr ⟨h4, h5, h6⟩, rfl⟩⟩
def sp_firsts (C : Addr) : Sp := fun vs H Q _ => ∃ (p q : Addr) (F G : Frm) (size : Int), vs = [.ref p, .ref q, .int size] ∧ IsF C H p F ∧ IsF C H q G ∧ 0 < size ∧ size ≤ 2000 ∧ size % (F.r.length : Int) = 0 ∧ size % (G.r.length : Int) = 0 ∧ Bnd F ∧ Bnd G ∧
  ∀ d H' kvs T, Le H H' → H d = none → H' d = some (.dK kvs) → TabI kvs T → Firsts F G size T → Q (.ref d) H'
theorem c_firsts {C : Addr} (T : Txt K mg) (F : DefOf K mg "firsts_of" s_firsts_of P_firsts_of) (C_begun_sums : Cal P w K mg base 3 "begun_sums" (sp_begun C) []) (C_first_of_rests : Cal P w K mg base 1 "first_of_rests" sp_first []) : Cal P w K mg base 4 "firsts_of" (sp_firsts C) [] := by
  obtain ⟨f, fd, F, B⟩ := F
  refine cal0 F B .nil sc_firsts_of (fun vs H Q E h => by obtain ⟨_, _, _, _, _, rfl, _⟩ := h; rfl) (fun cdv A outer s H vs Q E hr h => ?_)
  obtain ⟨p, q, F, G, size, rfl, hp, hq, s0, s1, sF, sG, bF, bG, qq⟩ := h
  have nd := sc_firsts_of.nd
  refine ⟨_, (pss_one (ps_ret (pe_c C_first_of_rests hr (by decide) rfl (pa_cons (pe_op op_cat (pe_c C_begun_sums hr (by decide) rfl (pa_cons (pv 0) (pa_cons (pv 1) (pa_cons (pv 2) pa_nil)))) (pe_c C_begun_sums hr (by decide) rfl (pa_cons (pv 1) (pa_cons (pv 0) (pa_cons (pv 2) pa_nil))))) (pa_cons (pv 2) pa_nil))))), ?_⟩
  refine ⟨_, rfl, _, rfl, _, rfl, p, q, F, G, size, rfl, hp, hq, s0, s1, sF, sG, bF, bG, ?_⟩
  intro d1 H1 xs l1 n1 e1 z1 g1
  refine ⟨_, rfl, _, rfl, _, rfl, q, p, G, F, size, rfl, hq.le l1, hp.le l1, s0, s1, sG, sF, bG, bF, ?_⟩
  intro d2 H2 ys l2 n2 e2 z2 g2
  refine ⟨d1, d2, _, _, rfl, rfl, l2 _ _ e1, e2, ?_, ?_⟩
  · rw [List.length_map, List.length_map]; exact le_szl _ (by omega)
  intro d3 n3
  rw [← List.map_append]
  refine ⟨_, rfl, d3, xs ++ ys, size, rfl, upd_self, s0, by omega, ?_⟩
  intro d4 H4 kvs Tq l4 n4 e4 tb ft
  have lH : Le H H4 := (l1.trans (l2.trans (Le.new n3))).trans l4
  refine qq d4 H4 kvs Tq lH ((l1.trans (l2.trans (Le.new n3))).none n4) e4 tb ?_
  have lhF := F.low_high
  have lhG := G.low_high
  constructor
  · intro k v hk
    obtain ⟨h1, h2⟩ := ft.is k v hk
    rcases List.mem_append.mp h1 with h1 | h1
    · obtain ⟨a, b, a1, a2, a3, a4, a5, a6, rfl⟩ := g1.is v h1
      exact ⟨h2, .inl ⟨a, b, a1, a3, a4, a6, rfl⟩, by omega, by omega⟩
    · obtain ⟨a, b, a1, a2, a3, a4, a5, a6, rfl⟩ := g2.is v h1
      exact ⟨h2, .inr ⟨b, a, a4, a6, a1, a3, by omega⟩, by omega, by omega⟩
  · rintro n (⟨a, b, a1, a2, a3, a4, rfl⟩ | ⟨a, b, a1, a2, a3, a4, rfl⟩)
    · obtain ⟨x, hx, h1, h2⟩ := g1.le a b a1 a2 a3 a4
      obtain ⟨v, hv, h3⟩ := ft.le x (List.mem_append_left _ hx)
      exact ⟨v, by rw [← h2]; exact hv, by omega⟩
    · obtain ⟨x, hx, h1, h2⟩ := g2.le b a a3 a4 a1 a2
      obtain ⟨v, hv, h3⟩ := ft.le x (List.mem_append_right _ hx)
      exact ⟨v, by rw [Int.add_comm a b, ← h2]; exact hv, by omega⟩
end
end Od
end
section
set_option Elab.async false
set_option linter.all false
set_option maxRecDepth 100000
set_option maxHeartbeats 2000000
set_option autoImplicit false
/-! a list compared with an empty one, whatever its items; with one of another length -/
namespace Od
open PySem PySem.Spec PyProof.Rows L2 PySem.SeqAt
section
variable {X : Cx}
def rEqE (K : PySem.W.Frag) (neg : Bool) : R2 := fun x y H Q => ∃ (a b : Addr) (xs ys : List V), x = .ref a ∧ y = .ref b ∧ SqL K H a xs ∧ SqL K H b ys ∧ (xs = [] ∨ ys = []) ∧ Q (.bl (if neg then !decide (xs.length = ys.length) else decide (xs.length = ys.length))) H
theorem isList_of {pins : List (Addr × Obj)} {σ : L2.St} {H : Hp} {s : Shared} {a : Addr} {xs : List V} (I : Inv X pins σ H s) (h : SqL X.K H a xs) : ∃ its : List Value, s.heap.IsList a its.toArray ∧ its.length = xs.length := by
  obtain ⟨its, rv, ⟨o, n, ho, hc, hdn, hd⟩, _⟩ := I.list h
  exact ⟨its, ⟨o, ho, hc, n, hd⟩, rv.length.symm⟩
theorem op_eqE (hu : X.A.units + 64 < cLine) : OpR X (compareOp .Eq) (rEqE X.K false) := by
  intro pins s σ H x y v u Q I rx ry h
  obtain ⟨a, b, xs, ys, rfl, rfl, ha, hb, hxy, q⟩ := h
  obtain rfl : v = Value.ref a := rx
  obtain rfl : u = Value.ref b := ry
  obtain ⟨is, la, ea⟩ := isList_of I ha
  obtain ⟨js, lb, eb⟩ := isList_of I hb
  by_cases c : xs.length = ys.length
  · have hx : xs.length = 0 := by rcases hxy with e | e <;> simp [e] at c ⊢ <;> simp [c]
    have hn : is.toArray.size = 0 := by rw [List.size_toArray, ea, hx]
    refine RcAt.lists (e := fun _ => true) la lb (by rw [List.size_toArray, List.size_toArray]; omega) (by omega) (fun j h1 _ => absurd h1 (by omega)) X.prog X.w _ _ ?_
    refine ⟨.bl _, H, I, ?_, q⟩
    rw [decide_eq_true c, hn]
    rfl
  · refine RcAt.lists_lengths la lb (by rw [List.size_toArray, List.size_toArray, ea, eb]; simpa using c) (by omega) X.prog X.w _ _ ?_
    refine ⟨.bl _, H, I, ?_, q⟩
    rw [decide_eq_false c]
    rfl
theorem op_neE (hu : X.A.units + 64 < cLine) : OpR X (compareOp .NotEq) (rEqE X.K true) := by
  intro pins s σ H x y v u Q I rx ry h
  obtain ⟨a, b, xs, ys, rfl, rfl, ha, hb, hxy, q⟩ := h
  obtain rfl : v = Value.ref a := rx
  obtain rfl : u = Value.ref b := ry
  obtain ⟨is, la, ea⟩ := isList_of I ha
  obtain ⟨js, lb, eb⟩ := isList_of I hb
  by_cases c : xs.length = ys.length
  · have hx : xs.length = 0 := by rcases hxy with e | e <;> simp [e] at c ⊢ <;> simp [c]
    have hn : is.toArray.size = 0 := by rw [List.size_toArray, ea, hx]
    refine RcNeAt.lists (e := fun _ => true) la lb (by rw [List.size_toArray, List.size_toArray]; omega) (by omega) (fun j h1 _ => absurd h1 (by omega)) X.prog X.w _ _ ?_
    refine ⟨.bl _, H, I, ?_, q⟩
    rw [decide_eq_true c, hn]
    rfl
  · refine RcNeAt.lists_lengths la lb (by rw [List.size_toArray, List.size_toArray, ea, eb]; simpa using c) (by omega) X.prog X.w _ _ ?_
    refine ⟨.bl _, H, I, ?_, q⟩
    rw [decide_eq_false c]
    rfl
/-- a dict compared with the empty one -/
def rNeDE : R2 := fun x y H Q => ∃ (a b : Addr) (ks : List (Key × V)), x = .ref a ∧ y = .ref b ∧ H a = some (.dK ks) ∧ H b = some (.dK []) ∧ Q (.bl (!decide (ks.length = 0))) H
theorem op_neDE (hu : X.A.units < cLine) : OpR X (compareOp .NotEq) rNeDE := by
  intro pins s σ H x y v u Q I rx ry h
  obtain ⟨a, b, ks, rfl, rfl, ea, eb, q⟩ := h
  obtain rfl : v = Value.ref a := rx
  obtain rfl : u = Value.ref b := ry
  obtain ⟨_, ya, va, ra, da⟩ := (show ObjOk X.prog X.w H s.heap a (.dK ks) from I.hok a _ ea)
  obtain ⟨_, yb, vb, rb, db⟩ := (show ObjOk X.prog X.w H s.heap b (.dK []) from I.hok b _ eb)
  have hl : va.length = ks.length := ra.length.symm
  have hb : vb.length = 0 := rb.length.symm
  refine PySem.W.keq_ne (knd := mixKind X.prog X.w) (r := true) ya yb da db hu (fun e => hits_all rb ra fun p hp => ?_) ?_
  · have : ks.length = 0 := by omega
    rw [List.eq_nil_of_length_eq_zero this] at hp
    cases hp
  · refine ⟨.bl _, H, I, ?_, q⟩
    show Value.bool _ = _
    rw [hl, hb, Bool.and_true]
    rfl
/-- a if t else b as a test -/
def tIfT (t a b : TT) : TT := fun σ H Q => t σ H fun c H1 => if c = true then a σ H1 Q else b σ H1 Q
theorem pt_ifE {c a b : Expr} {pos : Pos} {t ta tb : TT} (hc : PT X c t) (ha : PT X a ta) (hb : PT X b tb) : PT X (.IfExp c a b pos) (tIfT t ta tb) := by
  refine ⟨fun pins s σ H Q I h => ?_⟩
  have e : isTrue (.IfExp c a b pos) X.env (eval (.IfExp c a b pos) X.env) = (do if ← isTrue c X.env (eval c X.env) then isTrue a X.env (eval a X.env) else isTrue b X.env (eval b X.env)) := by
    first | rfl | simp [isTrue]
  rw [e]
  refine wpAny_bind (thn (hc.run pins s σ H _ I h) fun d s1 ⟨H1, I1, q1⟩ => ?_)
  cases d with
  | true => exact ha.run pins s1 σ H1 Q I1 q1
  | false => exact hb.run pins s1 σ H1 Q I1 q1
end
end Od
end
section
set_option Elab.async false
set_option linter.all false
set_option maxRecDepth 100000
set_option maxHeartbeats 2000000
set_option autoImplicit false
namespace Od
open PySem PySem.Spec PyProof.Rows L2 C8 Day
abbrev s_set_of : Stmt := top 26
abbrev N_set_of : List Str := ["size", "plain", "firsts", "lasts", "wholes", "numbers", "low", "n", "high", "signs", "rest", "is_in", "row"]
abbrev P_set_of : List Str := ["size", "plain", "firsts", "lasts", "wholes"]
theorem sc_set_of : FnScope N_set_of P_set_of (C8.fnScope s_set_of) := fnScope_by (by decide +kernel)
theorem Tab.keysI {kvs : List (Key × V)} {T : Int → Option V} (t : Tab kvs T) : ∃ ks : List Int, (kvs.map fun kv => kV kv.1) = ks.map V.int ∧ (∀ k, k ∈ ks ↔ ∃ v, T k = some v) ∧ ks.length = kvs.length := by
  refine ⟨kvs.map fun e => keyI e.1, ?_, fun k => ?_, List.length_map _⟩
  · rw [List.map_map]
    apply List.map_congr_left
    intro e he
    obtain ⟨k, hk, _⟩ := t.ent e he
    show kV e.1 = V.int (keyI e.1)
    rw [hk]
    rfl
  · rw [List.mem_map]
    constructor
    · rintro ⟨e, he, rfl⟩
      obtain ⟨k, hk, hT⟩ := t.ent e he
      rw [hk]
      exact ⟨_, hT⟩
    · rintro ⟨v, hv⟩
      exact ⟨_, t.mem hv, rfl⟩
def geO : Option Int → Int → Bool
  | some m, n => decide (m ≤ n)
  | none, _ => false
def leO : Option Int → Int → Bool
  | some m, n => decide (n ≤ m)
  | none, _ => false
/-- what set_of makes: its days -/
def setB (size : Int) (Tp : Int → Option V) (Tf Tl : Int → Option Int) (Tw : Int → Option V) (n : Int) : Bool := (Tp n).isSome || ((Tw (n % size)).isSome || (geO (Tf (n % size)) n || leO (Tl (n % size)) n))
/-- all numbers lie between -b and b -/
structure Lie (Tp : Int → Option V) (Tf Tl : Int → Option Int) (b : Int) : Prop where
  p : ∀ k v, Tp k = some v → -b ≤ k ∧ k ≤ b
  f : ∀ k v, Tf k = some v → -b ≤ v ∧ v ≤ b
  l : ∀ k v, Tl k = some v → -b ≤ v ∧ v ≤ b
theorem setB_up {size : Int} {Tp : Int → Option V} {Tf Tl : Int → Option Int} {Tw : Int → Option V} {hi : Int} (s0 : 0 < size) (hp : ∀ k v, Tp k = some v → k < hi) (hf : ∀ k v, Tf k = some v → v < hi) (hl : ∀ k v, Tl k = some v → v < hi) : Up (setB size Tp Tf Tl Tw) size hi := by
  intro n hn
  have e : (n + size) % size = n % size := Int.add_emod_right _ _
  have p1 : ∀ m, hi ≤ m → (Tp m).isSome = false := fun m hm => by
    cases h : Tp m with
    | none => rfl
    | some v => have := hp m v h; omega
  unfold setB
  rw [e, p1 n hn, p1 (n + size) (by omega)]
  have f1 : geO (Tf (n % size)) (n + size) = geO (Tf (n % size)) n := by
    cases h : Tf (n % size) with
    | none => rfl
    | some v =>
      have := hf _ v h
      show decide _ = decide _
      rw [decide_eq_true (by omega), decide_eq_true (by omega)]
  have l1 : leO (Tl (n % size)) (n + size) = leO (Tl (n % size)) n := by
    cases h : Tl (n % size) with
    | none => rfl
    | some v =>
      have := hl _ v h
      show decide _ = decide _
      rw [decide_eq_false (by omega), decide_eq_false (by omega)]
  rw [f1, l1]
theorem setB_dn {size : Int} {Tp : Int → Option V} {Tf Tl : Int → Option Int} {Tw : Int → Option V} {lo : Int} (s0 : 0 < size) (hp : ∀ k v, Tp k = some v → lo ≤ k) (hf : ∀ k v, Tf k = some v → lo ≤ v) (hl : ∀ k v, Tl k = some v → lo ≤ v) : Dn (setB size Tp Tf Tl Tw) size lo := by
  intro n hn
  have e : (n - size) % size = n % size := Int.sub_emod_right _ _
  have p1 : ∀ m, m < lo → (Tp m).isSome = false := fun m hm => by
    cases h : Tp m with
    | none => rfl
    | some v => have := hp m v h; omega
  unfold setB
  rw [e, p1 n hn, p1 (n - size) (by omega)]
  have f1 : geO (Tf (n % size)) (n - size) = geO (Tf (n % size)) n := by
    cases h : Tf (n % size) with
    | none => rfl
    | some v =>
      have := hf _ v h
      show decide _ = decide _
      rw [decide_eq_false (by omega), decide_eq_false (by omega)]
  have l1 : leO (Tl (n % size)) (n - size) = leO (Tl (n % size)) n := by
    cases h : Tl (n % size) with
    | none => rfl
    | some v =>
      have := hl _ v h
      show decide _ = decide _
      rw [decide_eq_true (by omega), decide_eq_true (by omega)]
  rw [f1, l1]
theorem str_bi (b : Bool) : numS (if b = true then 1 else 0) = (⟨#[sg b]⟩ : Str) := by cases b <;> decide +kernel
section
variable {P : Program} {w : World} {K : PySem.W.Frag} {mg : Str → Option Value} {base : Heap}
def sp_set_of (C : Addr) : Sp := fun vs H Q _ => ∃ (size : Int) (p f l q : Addr) (kp kf kl kw : List (Key × V)) (Tp : Int → Option V) (Tf Tl : Int → Option Int) (Tw : Int → Option V) (b : Int), vs = [.int size, .ref p, .ref f, .ref l, .ref q] ∧
  H p = some (.dK kp) ∧ H f = some (.dK kf) ∧ H l = some (.dK kl) ∧ H q = some (.dK kw) ∧ Tab kp Tp ∧ TabI kf Tf ∧ TabI kl Tl ∧ Tab kw Tw ∧ kp.length + kf.length + kl.length ≤ 16777216 ∧ Lie Tp Tf Tl b ∧ 0 < size ∧ size ≤ 200000 ∧ 0 ≤ b ∧ b ≤ 1000000 ∧
  ∀ r H', Le H H' → IsDay C H' r (setB size Tp Tf Tl Tw) → H r = none → Q (.ref r) H'
theorem c_set_of {C : Addr} (T : Txt K mg) (D : DSC K mg C) (F : DefOf K mg "set_of" s_set_of P_set_of) (M_DaySet : Mak P w K mg base 4 "DaySet" C (sp_init C) []) : Cal P w K mg base 6 "set_of" (sp_set_of C) [] := by
  obtain ⟨f, fd, F, B⟩ := F
  refine cal0 F B .nil sc_set_of (fun vs H Q E h => by obtain ⟨_, _, _, _, _, _, _, _, _, _, _, _, _, _, rfl, _⟩ := h; rfl) (fun cdv A outer s H vs Q E hr h => ?_)
  obtain ⟨size, p, f, l, q, kp, kf, kl, kw, Tp, Tf, Tl, Tw, b, rfl, hp, hf, hl, hq, tp, tf, tl, tw, hlen, lie, s0, s1, b0, b1, qq⟩ := h
  have nd := sc_set_of.nd
  refine ⟨_, (pss_cons (ps_set (i := 5) nd rfl (Or.inl rfl) (pe_op op_cat (pe_op op_cat (pe_callTy (call_list_dK rfl) (by rfl) T.b_list (by decide +kernel) (pa_cons (pv 1) pa_nil)) (pe_listVals (by rfl) (by rfl) T.b_list (pv 2))) (pe_listVals (by rfl) (by rfl) T.b_list (pv 3))))
      (C8.pss_cut (ps_set (i := 6) nd rfl (Or.inl rfl) (pe_ifExp (pt_cmpR (op_neE hr.units) (pv 5) (pe_lst pa_nil) (nomark _)) (pe_callB (cr_min rfl) (by rfl) T.b_min (by decide +kernel) (pa_cons (pe_lc (own := [("n", 7)]) (g := gName 7) (by rfl) nd (pi_list (pv 5)) (blkOk_by (own := [("n", 7)]) (N := N_set_of) (sc := C8.fnScope s_set_of) (by decide +kernel)) (fun _ _ _ _ _ => pg_name (i := 7) nd rfl (Or.inl rfl)) (fun _ _ _ _ _ => pts_nil) (fun _ _ _ _ _ => (pe_callTy call_int1 (by rfl) T.b_int (by decide +kernel) (pa_cons (pv 7) pa_nil)))) pa_nil)) pe_int))
      (C8.pss_cut (ps_set (i := 8) nd rfl (Or.inl rfl) (pe_ifExp (pt_cmpR (op_neE hr.units) (pv 5) (pe_lst pa_nil) (nomark _)) (pe_op op_add (pe_callB (cr_max rfl) (by rfl) T.b_max (by decide +kernel) (pa_cons (pe_lc (own := [("n", 7)]) (g := gName 7) (by rfl) nd (pi_list (pv 5)) (blkOk_by (own := [("n", 7)]) (N := N_set_of) (sc := C8.fnScope s_set_of) (by decide +kernel)) (fun _ _ _ _ _ => pg_name (i := 7) nd rfl (Or.inl rfl)) (fun _ _ _ _ _ => pts_nil) (fun _ _ _ _ _ => (pe_callTy call_int1 (by rfl) T.b_int (by decide +kernel) (pa_cons (pv 7) pa_nil)))) pa_nil)) pe_int) pe_int))
      (pss_cons (ps_set (i := 9) nd rfl (Or.inl rfl) (pe_lst pa_nil))
      (C8.pss_cut (ps_for PassesOwn.never rfl (pi_range2 (by rfl) T.b_range (pa_cons (pe_op op_sub (pv 6) (pv 0)) (pa_cons (pe_op op_add (pv 8) (pv 0)) pa_nil))) (pg_name (i := 7) nd rfl (Or.inl rfl)) (pss_cons (ps_set (i := 10) nd rfl (Or.inl rfl) (pe_op op_mod (pv 7) (pv 0)))
      (C8.pss_cut (ps_set (i := 11) nd rfl (Or.inl rfl) (pe_or (pe_cmp (pc_din (Room.u1 hr) (pv 7) (pv 1))) (pe_or (pe_cmp (pc_din (Room.u1 hr) (pv 10) (pv 4))) (pe_or (pe_cmpR op_ge (pv 7) (pe_dget2 (Room.u1 hr) (pv 2) (pv 10) (pe_op op_add (pv 7) pe_int) ⟨by rfl, by rfl, by rfl, by rfl⟩) (nomark _)) (pe_one (pe_cmpR op_le (pv 7) (pe_dget2 (Room.u1 hr) (pv 3) (pv 10) (pe_op op_sub (pv 7) pe_int) ⟨by rfl, by rfl, by rfl, by rfl⟩) (nomark _)))))))
      (pss_one (ps_expr (pe_bm PySem.F.plainAttrs_list PySem.F.slot_list_append PySem.F.type_list_append mt_append (pv 9) (pa_cons (pe_callTy call_str_int (by rfl) T.b_str (by decide +kernel) (pa_cons (pe_callTy call_int1 (by rfl) T.b_int (by decide +kernel) (pa_cons (pv 11) pa_nil)) pa_nil)) pa_nil)))))))
      (pss_cons (ps_set (i := 12) nd rfl (Or.inl rfl) (pe_join pe_str (pv 9)))
      (pss_one (ps_ret (pe_mk M_DaySet hr (by decide) rfl (pa_cons (pe_slice sl_str (pv 12) po_none (po_some (pv 0))) (pa_cons (pv 6) (pa_cons (pe_slice sl_str (pv 12) (po_some (pv 0)) (po_some (pe_op op_sub (pe_callB call_len_str (by rfl) T.b_len (by decide +kernel) (pa_cons (pv 12) pa_nil)) (pv 0)))) (pa_cons (pe_slice sl_str (pv 12) (po_some (pe_op op_sub (pe_callB call_len_str (by rfl) T.b_len (by decide +kernel) (pa_cons (pv 12) pa_nil)) (pv 0))) po_none) pa_nil))))))))))))), ?_⟩
  obtain ⟨xs, hxs, mxs, lxs⟩ := tp.keysI
  obtain ⟨ys, hys, mys, lys⟩ := tf.vals
  obtain ⟨zs, hzs, mzs, lzs⟩ := tl.vals
  have sz : sizeLine = 16777216 := sizeLine_eq
  refine ⟨_, rfl, _, _, rfl, hp, fun q1 n1 => ?_⟩
  rw [hxs]
  have f1 := (Le.new (o := .lst (xs.map V.int)) n1) f _ hf
  refine ⟨_, rfl, _, _, rfl, f1, fun q2 n2 => ?_⟩
  rw [hys]
  have ne12 : q1 ≠ q2 := fun e => by rw [← e, upd_self] at n2; cases n2
  refine ⟨q1, q2, _, _, rfl, rfl, by rw [upd_ne ne12, upd_self], upd_self, by rw [List.length_map, List.length_map]; omega, fun q3 n3 => ?_⟩
  rw [← List.map_append]
  have le3 : Le H (upd (upd (upd H q1 (.lst (xs.map V.int))) q2 (.lst (ys.map V.int))) q3 (.lst ((xs ++ ys).map V.int))) := ((Le.new (o := .lst (xs.map V.int)) n1).trans (Le.new (o := .lst (ys.map V.int)) n2)).trans (Le.new (o := .lst ((xs ++ ys).map V.int)) n3)
  refine ⟨_, rfl, _, _, rfl, le3 l _ hl, fun q4 n4 => ?_⟩
  rw [hzs]
  have ne34 : q3 ≠ q4 := fun e => by rw [← e, upd_self] at n4; cases n4
  refine ⟨q3, q4, _, _, rfl, rfl, by rw [upd_ne ne34, upd_self], upd_self, by rw [List.length_map, List.length_map, List.length_append]; omega, fun q5 n5 => ?_⟩
  rw [← List.map_append]
  have le5 := (le3.trans (Le.new (o := .lst (zs.map V.int)) n4)).trans (Le.new (o := .lst ((xs ++ ys ++ zs).map V.int)) n5)
  have nfree : H q5 = none := (le3.trans (Le.new (o := .lst (zs.map V.int)) n4)).none n5
  generalize hH5 : upd (upd (upd (upd (upd H q1 (.lst (xs.map V.int))) q2 (.lst (ys.map V.int))) q3 (.lst ((xs ++ ys).map V.int))) q4 (.lst (zs.map V.int))) q5 (.lst ((xs ++ ys ++ zs).map V.int)) = H5 at le5
  have e5 : H5 q5 = some (.lst ((xs ++ ys ++ zs).map V.int)) := by rw [← hH5, upd_self]
  have lnum : (xs ++ ys ++ zs).length ≤ 16777216 := by rw [List.length_append, List.length_append]; omega
  have mnum : ∀ m, m ∈ xs ++ ys ++ zs ↔ (∃ v, Tp m = some v) ∨ (∃ k, Tf k = some m) ∨ ∃ k, Tl k = some m := fun m => by
    rw [List.mem_append, List.mem_append, mxs, mys, mzs, or_assoc]
  generalize xs ++ ys ++ zs = nums at *
  have bnum : ∀ m ∈ nums, -b ≤ m ∧ m ≤ b := fun m hm => by
    rcases (mnum m).mp hm with ⟨v, h⟩ | ⟨k, h⟩ | ⟨k, h⟩
    · exact lie.p m v h
    · exact lie.f k m h
    · exact lie.l k m h
  -- the least number
  refine ⟨fun σ' H' => Le H5 H' ∧ ∃ lo x, σ' = [some (.int size), some (.ref p), some (.ref f), some (.ref l), some (.ref q), some (.ref q5), some (.int lo), x, none, none, none, none, none] ∧ (nums = [] → lo = 0) ∧ (nums ≠ [] → lo ∈ nums ∧ ∀ m ∈ nums, lo ≤ m), ?_, ?_⟩
  · refine ⟨_, rfl, Nat.zero_le _, fun q6 n6 => ?_⟩
    have e56 := (Le.new (o := .lst []) n6) _ _ e5
    refine ⟨q5, q6, _, _, rfl, rfl, .of e56, .of upd_self, .inr rfl, _, rfl, ?_⟩
    refine ite2 (fun c => ?_) (fun c => ?_)
    · have hne : nums ≠ [] := fun e => by rw [e] at c; cases c
      refine ⟨_, rfl, q5, rfl, ⟨_, .of e56⟩, fun d hd => ?_⟩
      refine lc_pure walk_list hd (by rw [List.length_map]; omega) (fun _ le => .of (le _ _ e56)) yat_le (fun i => (nums.map V.int)[i]?) ?_ ?_
      · rintro i x H1 H2 hi le ⟨rfl, hx⟩ N hN
        have := hN H2 .refl
        rw [hx] at this
        rw [List.getElem?_map] at hx
        obtain ⟨m, hm, rfl⟩ := Option.map_eq_some_iff.mp hx
        exact ⟨rfl, _, rfl, .inl ⟨m, rfl, this⟩⟩
      · intro H6 le e6
        rw [fm_get] at e6
        refine ⟨d, nums, rfl, .of e6, List.length_pos_iff.mpr hne, fun m hm hmin => ?_⟩
        exact ⟨(Le.new n6).trans le, m, _, rfl, fun e => absurd e hne, fun _ => ⟨hm, hmin⟩⟩
    · have he : nums = [] := by
        cases h : nums with
        | nil => rfl
        | cons a r => rw [h] at c; exact absurd rfl c
      exact ⟨Le.new n6, 0, _, rfl, fun _ => rfl, fun h => absurd he h⟩
  rintro σ1 H6 ⟨le6, lo, x1, rfl, lo1, lo2⟩
  have e6 := le6 _ _ e5
  -- the greatest
  refine ⟨fun σ' H' => Le H6 H' ∧ ∃ hi x, σ' = [some (.int size), some (.ref p), some (.ref f), some (.ref l), some (.ref q), some (.ref q5), some (.int lo), x, some (.int hi), none, none, none, none] ∧ (nums = [] → hi = 0) ∧ (nums ≠ [] → hi - 1 ∈ nums ∧ ∀ m ∈ nums, m < hi), ?_, ?_⟩
  · refine ⟨_, rfl, Nat.zero_le _, fun q6 n6 => ?_⟩
    have e56 := (Le.new (o := .lst []) n6) _ _ e6
    refine ⟨q5, q6, _, _, rfl, rfl, .of e56, .of upd_self, .inr rfl, _, rfl, ?_⟩
    refine ite2 (fun c => ?_) (fun c => ?_)
    · have hne : nums ≠ [] := fun e => by rw [e] at c; cases c
      refine ⟨_, rfl, q5, rfl, ⟨_, .of e56⟩, fun d hd => ?_⟩
      refine lc_pure walk_list hd (by rw [List.length_map]; omega) (fun _ le => .of (le _ _ e56)) yat_le (fun i => (nums.map V.int)[i]?) ?_ ?_
      · rintro i x H1 H2 hi le ⟨rfl, hx⟩ N hN
        have := hN H2 .refl
        rw [hx] at this
        rw [List.getElem?_map] at hx
        obtain ⟨m, hm, rfl⟩ := Option.map_eq_some_iff.mp hx
        exact ⟨rfl, _, rfl, .inl ⟨m, rfl, this⟩⟩
      · intro H7 le e7
        rw [fm_get] at e7
        refine ⟨d, nums, rfl, .of e7, List.length_pos_iff.mpr hne, fun m hm hmax => ?_⟩
        exact ⟨_, _, rfl, rfl, (Le.new n6).trans le, m + 1, _, rfl, fun e => absurd e hne, fun _ => ⟨by rw [show m + 1 - 1 = m by omega]; exact hm, fun y hy => by have := hmax y hy; omega⟩⟩
    · have he : nums = [] := by
        cases h : nums with
        | nil => rfl
        | cons a r => rw [h] at c; exact absurd rfl c
      exact ⟨Le.new n6, 0, _, rfl, fun _ => rfl, fun h => absurd he h⟩
  rintro σ2 H7 ⟨le7, hi, x2, rfl, hi1, hi2⟩
  have hlh : lo ≤ hi ∧ -b ≤ lo ∧ hi ≤ b + 1 := by
    by_cases c : nums = []
    · have := lo1 c; have := hi1 c; omega
    · obtain ⟨a1, a2⟩ := lo2 c
      obtain ⟨a3, a4⟩ := hi2 c
      have := bnum _ a1; have := bnum _ a3; have := a4 _ a1
      omega
  have inL : ∀ m ∈ nums, lo ≤ m ∧ m < hi := fun m hm => by
    have hne : nums ≠ [] := fun e => by rw [e] at hm; cases hm
    exact ⟨(lo2 hne).2 m hm, (hi2 hne).2 m hm⟩
  have hup := setB_up (size := size) (Tp := Tp) (Tf := Tf) (Tl := Tl) (Tw := Tw) (hi := hi) s0 (fun k v h => (inL k ((mnum k).mpr (.inl ⟨v, h⟩))).2) (fun k v h => (inL v ((mnum v).mpr (.inr (.inl ⟨k, h⟩)))).2) (fun k v h => (inL v ((mnum v).mpr (.inr (.inr ⟨k, h⟩)))).2)
  have hdn := setB_dn (size := size) (Tp := Tp) (Tf := Tf) (Tl := Tl) (Tw := Tw) (lo := lo) s0 (fun k v h => (inL k ((mnum k).mpr (.inl ⟨v, h⟩))).1) (fun k v h => (inL v ((mnum v).mpr (.inr (.inl ⟨k, h⟩)))).1) (fun k v h => (inL v ((mnum v).mpr (.inr (.inr ⟨k, h⟩)))).1)
  obtain ⟨h1, h2, h3⟩ := hlh
  refine ⟨Nat.zero_le _, fun d hd => ?_⟩
  have le8 : Le H (upd H7 d (.lst [])) := ((le5.trans le6).trans le7).trans (Le.new hd)
  have hN : ((hi + size) - (lo - size)).toNat = size.toNat + (hi - lo).toNat + size.toNat := by omega
  refine ⟨fun σ' H' => Le H H' ∧ ∃ x y z, σ' = [some (.int size), some (.ref p), some (.ref f), some (.ref l), some (.ref q), some (.ref q5), some (.int lo), x, some (.int hi), some (.ref d), y, z, none] ∧ H' d = some (.lst ((List.range (size.toNat + (hi - lo).toNat + size.toNat)).map fun i => .str ⟨#[sg (setB size Tp Tf Tl Tw (lo - size + (i : Nat)))]⟩)), ?_, ?_⟩
  · refine ⟨_, rfl, _, rfl, _, _, rfl, rfl, _, rfl, _, rfl, _, _, rfl, rfl, _, _, rfl, ⟨by omega, by omega, by omega, by omega⟩, ?_⟩
    rw [hN]
    refine for_range (fun i σ' H' => Le H H' ∧ ∃ x y z, σ' = [some (.int size), some (.ref p), some (.ref f), some (.ref l), some (.ref q), some (.ref q5), some (.int lo), x, some (.int hi), some (.ref d), y, z, none] ∧ H' d = some (.lst ((List.range i).map fun i => .str ⟨#[sg (setB size Tp Tf Tl Tw (lo - size + (i : Nat)))]⟩))) ?_ ?_ ?_
    · exact ⟨le8, _, _, _, rfl, upd_self⟩
    · rintro i σ' H' hI ⟨le, x, y, z, rfl, e⟩
      have ep := le _ _ hp
      have ef := le _ _ hf
      have el := le _ _ hl
      have eq := le _ _ hq
      refine ⟨_, rfl, _, rfl, _, _, rfl, rfl, s0, ?_⟩
      generalize hn : lo - size + (i : Int) = n
      refine ⟨fun σ' H2 => H2 = H' ∧ σ' = [some (.int size), some (.ref p), some (.ref f), some (.ref l), some (.ref q), some (.ref q5), some (.int lo), some (.int n), some (.int hi), some (.ref d), some (.int (n % size)), some (.bl (setB size Tp Tf Tl Tw n)), none], ?_, ?_⟩
      · refine ⟨_, rfl, _, rfl, _, _, rfl, .k (k := .inl n) ep, _, rfl, ?_⟩
        rw [tp.val]
        refine ite2 (fun c => ?_) (fun c => ?_)
        · exact ⟨rfl, by unfold setB; rw [c]; rfl⟩
        have c1 : (Tp n).isSome = false := by simpa using c
        refine ⟨_, rfl, _, rfl, _, _, rfl, .k (k := .inl (n % size)) eq, _, rfl, ?_⟩
        rw [tw.val]
        refine ite2 (fun c => ?_) (fun c => ?_)
        · exact ⟨rfl, by unfold setB; rw [c, c1]; rfl⟩
        have c2 : (Tw (n % size)).isSome = false := by simpa using c
        refine ⟨_, rfl, _, rfl, _, rfl, .inl ⟨kf, .inl ef⟩, _, rfl, _, rfl, _, _, rfl, rfl, _, .k (k := .inl (n % size)) ef, ?_⟩
        rw [tf.val]
        have g1 : ∃ m : Int, ((Tf (n % size)).map V.int).getD (.int (n + 1)) = .int m ∧ decide (m ≤ n) = geO (Tf (n % size)) n := by
          cases Tf (n % size) with
          | none => exact ⟨_, rfl, decide_eq_false (by omega)⟩
          | some m => exact ⟨m, rfl, rfl⟩
        obtain ⟨m1, em1, g1⟩ := g1
        refine ⟨_, m1, rfl, em1, _, rfl, ?_⟩
        rw [g1]
        refine ite2 (fun c => ?_) (fun c => ?_)
        · exact ⟨rfl, by unfold setB; rw [c, c1, c2]; rfl⟩
        have c3 : geO (Tf (n % size)) n = false := by simpa using c
        refine ⟨_, rfl, _, rfl, _, rfl, .inl ⟨kl, .inl el⟩, _, rfl, _, rfl, _, _, rfl, rfl, _, .k (k := .inl (n % size)) el, ?_⟩
        rw [tl.val]
        have g2 : ∃ m : Int, ((Tl (n % size)).map V.int).getD (.int (n - 1)) = .int m ∧ decide (n ≤ m) = leO (Tl (n % size)) n := by
          cases Tl (n % size) with
          | none => exact ⟨_, rfl, decide_eq_false (by omega)⟩
          | some m => exact ⟨m, rfl, rfl⟩
        obtain ⟨m2, em2, g2⟩ := g2
        have hs : setB size Tp Tf Tl Tw n = decide (n ≤ m2) := by
          unfold setB
          rw [g2, c1, c2, c3]
          rfl
        exact ⟨_, m2, rfl, em2, rfl, by rw [hs] <;> rfl⟩
      · rintro σ' H2 ⟨rfl, rfl⟩
        have lg : (if setB size Tp Tf Tl Tw n = true then (1 : Int) else 0).natAbs.log2 < 1920 := by split <;> decide
        refine ⟨_, rfl, .inl ⟨rfl, _, SqL.of e⟩, _, rfl, .inr ⟨_, rfl, _, rfl, lg, ?_⟩⟩
        refine ⟨d, _, _, rfl, rfl, e, by rw [List.length_map, List.length_range]; omega, ?_⟩
        have hdn0 : H d = none := ((le5.trans le6).trans le7).none hd
        refine ⟨le.upd hdn0, _, _, _, rfl, ?_⟩
        rw [upd_self, List.range_succ, List.map_append, ← hn]
        have sb := str_bi (setB size Tp Tf Tl Tw (lo - size + (i : Int)))
        unfold numS at sb
        rw [sb]
        rfl
    · rintro σ' H' h
      exact h
  rintro σ3 H8 ⟨le, x, y, z, rfl, e⟩
  have er : ∃ R : List Bool, R = (List.range (size.toNat + (hi - lo).toNat + size.toNat)).map (fun i => setB size Tp Tf Tl Tw (lo - size + (i : Nat))) ∧ R.length = size.toNat + (hi - lo).toNat + size.toNat ∧ ∀ i, i < R.length → R.getD i false = setB size Tp Tf Tl Tw (lo - size.toNat + (i : Nat)) := by
    refine ⟨_, rfl, by simp, fun i hi => ?_⟩
    rw [List.getD_eq_getElem?_getD, List.getElem?_map, List.getElem?_range (by simpa using hi)]
    show setB _ _ _ _ _ _ = _
    congr 2
    omega
  obtain ⟨R, eR, hR, hRi⟩ := er
  have e1 : H8 d = some (.lst ((R.map fun b => (⟨#[sg b]⟩ : Str)).map V.str)) := by
    rw [e, eR, List.map_map, List.map_map]
    rfl
  refine ⟨⟨_, rfl⟩, _, rfl, _, d, R.map fun b => (⟨#[sg b]⟩ : Str), rfl, rfl, .inl (.of e1), ?_, ?_⟩
  · have : ((R.map fun b => (⟨#[sg b]⟩ : Str)).map (·.length)).sum = R.length := by
      rw [List.map_map]
      have e3 : (R.map ((fun x : Str => x.length) ∘ fun b => (⟨#[sg b]⟩ : Str))) = R.map fun _ => 1 := List.map_congr_left fun _ _ => rfl
      rw [e3, sum_one]
    have e4 : (("" : Str)).length = 0 := by decide +kernel
    rw [this, e4, hR]
    omega
  rw [join_signs]
  have sR : (rowS R).length ≤ sizeLine := szl (by omega)
  have ej : (R.length : Int) - size = ((R.length - size.toNat : Nat) : Int) := by omega
  have es : size = ((size.toNat : Nat) : Int) := by omega
  refine ⟨_, rfl, _, rfl, _, rfl, _, rfl, sR, _, rfl, _, rfl, _, rfl, _, rfl, _, rfl, _, rfl, sR, _, rfl, _, _, rfl, rfl, _, rfl, _, rfl, sR, _, rfl, _, rfl, _, rfl, sR, _, rfl, _, _, rfl, rfl, _, rfl, _, rfl, sR, ?_⟩
  rw [rowS_len, ej]
  have c1 : cutS (rowS R) none (some size) = rowS (R.take size.toNat) := by
    have := rowS_to R size.toNat (by omega)
    rwa [← es] at this
  have c2 : cutS (rowS R) (some size) (some ((R.length - size.toNat : Nat) : Int)) = rowS ((R.drop size.toNat).take (R.length - size.toNat - size.toNat)) := by
    have := rowS_mid R size.toNat (R.length - size.toNat) (by omega) (by omega)
    rwa [← es] at this
  rw [c1, c2, rowS_from R _ (by omega)]
  refine make_day _ lo _ _ (setB size Tp Tf Tl Tw) ?_ ?_ ?_ ?_ ?_ ?_ ?_
  · intro e0
    have := congrArg List.length e0
    rw [List.length_take, List.length_nil] at this
    omega
  · intro e0
    have := congrArg List.length e0
    rw [List.length_drop, List.length_nil] at this
    omega
  · rw [List.length_take]; omega
  · rw [List.length_take, List.length_drop]; omega
  · rw [List.length_drop]; omega
  · intro n
    have := form_of (f := setB size Tp Tf Tl Tw) (row := R) (low := lo) (a := size.toNat) (b := size.toNat) (by omega) (by omega) (by omega) hRi (by rw [hR, show lo + ((size.toNat + (hi - lo).toNat + size.toNat - size.toNat - size.toNat : Nat) : Int) = hi by omega, ← es]; exact hup) (by rw [← es]; exact hdn) n
    exact this
  · intro r H9 l9 hday hr0
    exact qq r H9 (le.trans l9) hday (le.none hr0)
end
end Od
end
section
set_option Elab.async false
set_option linter.all false
set_option maxRecDepth 100000
set_option maxHeartbeats 2000000
set_option autoImplicit false
namespace Od
open PySem PySem.Spec PyProof.Rows L2 C8 Day
/-- the form of the set turned: its ends -/
theorem neg_ends {F N : Frm} (L : Least F) (M : Least N) (h : ∀ n, N.mem n = F.mem (-n)) : N.high ≤ 1 - F.low ∧ N.low ≤ 1 - F.high := by
  have lF := prim_len L.l0
  have rF := prim_len L.r0
  have lN := prim_len M.l0
  have rN := prim_len M.r0
  have hu : Up N.mem F.l.length (1 - F.low) := fun n hn => by
    rw [h, h, show -(n + (F.l.length : Int)) = -n - F.l.length by omega]
    exact L.dn_low (-n) (by omega)
  have hd : Dn N.mem F.r.length (1 - F.high) := fun n hn => by
    rw [h, h, show -(n - (F.r.length : Int)) = -n + F.r.length by omega]
    exact L.up_high (-n) (by omega)
  -- all days come again in F, or in N: both begin at 0
  have third : (F.m = [] ∧ F.l = F.r ∧ F.low = 0) → N.m = [] ∧ N.l = N.r ∧ N.low = 0 := fun tF => by
    by_cases c : N.m = [] ∧ N.l = N.r ∧ N.low = 0
    · exact c
    · exfalso
      have per : ∀ z, N.mem (z + F.r.length) = N.mem z := fun z => by
        rw [h, h, L.all_per tF, L.all_per tF, show -(z + (F.r.length : Int)) = -z + (-1) * F.r.length by omega, cyc_per.at]
      have up := M.mono_up (p := F.r.length) (b := N.high - 1) (by omega) (fun n _ => per n)
      exact M.odd c (up (N.high - 1) (Int.le_refl _)).symm
  have third2 : (N.m = [] ∧ N.l = N.r ∧ N.low = 0) → F.m = [] ∧ F.l = F.r ∧ F.low = 0 := fun tN => by
    by_cases c : F.m = [] ∧ F.l = F.r ∧ F.low = 0
    · exact c
    · exfalso
      have h' : ∀ n, F.mem n = N.mem (-n) := fun n => by rw [h, Int.neg_neg]
      have per : ∀ z, F.mem (z + N.r.length) = F.mem z := fun z => by
        rw [h', h', M.all_per tN, M.all_per tN, show -(z + (N.r.length : Int)) = -z + (-1) * N.r.length by omega, cyc_per.at]
      have up := L.mono_up (p := N.r.length) (b := F.high - 1) (by omega) (fun n _ => per n)
      exact L.odd c (up (F.high - 1) (Int.le_refl _)).symm
  by_cases tF : F.m = [] ∧ F.l = F.r ∧ F.low = 0
  · have tN := third tF
    have e1 : F.high = 0 := by unfold Frm.high; rw [tF.1, tF.2.2]; rfl
    have e2 : N.high = 0 := by unfold Frm.high; rw [tN.1, tN.2.2]; rfl
    have := tF.2.2
    have := tN.2.2
    omega
  · have tN : ¬ (N.m = [] ∧ N.l = N.r ∧ N.low = 0) := fun t => tF (third2 t)
    constructor
    · rcases Int.lt_or_le (1 - F.low) N.high with c | c
      · exfalso
        have up := M.mono_up (p := F.l.length) (b := 1 - F.low) (by omega) hu
        exact M.odd tN (up (N.high - 1) (by omega)).symm
      · exact c
    · rcases Int.lt_or_le (1 - F.high) N.low with c | c
      · exfalso
        have dv : (F.r.length : Int) % (N.l.length : Int) = 0 := M.l_dvd hd
        have dn := dn_size M (size := F.r.length) (by omega) dv
        have e1 := dn (1 - F.high) c
        rw [h, h, show -(1 - F.high - (F.r.length : Int)) = F.high - 1 + F.r.length by omega, show -(1 - F.high) = F.high - 1 by omega] at e1
        exact L.odd tF e1.symm
      · exact c
theorem Beg.far {F G : Frm} {size v n : Int} (uF : Up F.mem size F.high) (uG : Up G.mem size G.high) (s0 : 0 < size) (h : Beg F G v) (hn : v ≤ n) (e : v % size = n % size) : Beg F G n := by
  have h3 : (n - v) % size = 0 := Int.emod_eq_emod_iff_emod_sub_eq_zero.mp e.symm
  obtain ⟨k, hk⟩ := Int.dvd_of_emod_eq_zero h3
  have k0 : 0 ≤ k := by
    rcases Int.lt_or_le k 0 with c | c
    · have := Int.mul_neg_of_pos_of_neg s0 c
      omega
    · exact c
  have ek : ((k.toNat : Nat) : Int) * size = n - v := by rw [hk, Int.mul_comm]; congr 1; omega
  rcases h with ⟨a, b, a1, a2, a3, a4, rfl⟩ | ⟨a, b, a1, a2, a3, a4, rfl⟩
  · have := uG.nat s0 k.toNat b a3
    exact .inl ⟨a, b + k.toNat * size, a1, a2, by omega, by rw [this]; exact a4, by omega⟩
  · have := uF.nat s0 k.toNat a a1
    exact .inr ⟨a + k.toNat * size, b, by omega, by rw [this]; exact a2, a3, a4, by omega⟩
theorem Beg.sum {F G : Frm} {n : Int} (h : Beg F G n) : ∃ a b, F.mem a = true ∧ G.mem b = true ∧ n = a + b := by
  rcases h with ⟨a, b, _, a2, _, a4, e⟩ | ⟨a, b, _, a2, _, a4, e⟩ <;> exact ⟨a, b, a2, a4, e⟩
theorem WholeR.sum {F G : Frm} {size n : Int} (s0 : 0 < size) (uF : Up F.mem size F.high) (dG : Dn G.mem size G.low) (h : WholeR F G size (n % size)) : ∃ a b, F.mem a = true ∧ G.mem b = true ∧ n = a + b := by
  obtain ⟨a, b, a1, _, a3, _, a5, a6, e⟩ := h
  have h3 : (n - (a + b)) % size = 0 := Int.emod_eq_emod_iff_emod_sub_eq_zero.mp e
  obtain ⟨k, hk⟩ := Int.dvd_of_emod_eq_zero h3
  rcases Int.lt_or_le k 0 with c | c
  · have ek : (((-k).toNat : Nat) : Int) * size = (a + b) - n := by
      rw [show (((-k).toNat : Nat) : Int) = -k by omega, Int.neg_mul, Int.mul_comm, ← hk]; omega
    have := dG.nat s0 (-k).toNat b a5
    exact ⟨a, b - (-k).toNat * size, a3, by rw [this]; exact a6, by omega⟩
  · have ek : ((k.toNat : Nat) : Int) * size = n - (a + b) := by rw [hk, Int.mul_comm]; congr 1; omega
    have := uF.nat s0 k.toNat a a1
    exact ⟨a + k.toNat * size, b, by rw [this]; exact a3, a6, by omega⟩
theorem whole_of {F G : Frm} {size a b : Int} (s0 : 0 < size) (uF : Up F.mem size F.high) (dG : Dn G.mem size G.low) (ha : F.high ≤ a) (hfa : F.mem a = true) (hb : b < G.low) (hgb : G.mem b = true) : WholeR F G size ((a + b) % size) := by
  obtain ⟨a', a1, a2, a3, a4, a5⟩ := down_to s0 uF ha hfa
  obtain ⟨b', b1, b2, b3, b4, b5⟩ := up_to s0 dG hb hgb
  exact ⟨a', b', a1, a2, a5, b1, b2, b5, by rw [Int.add_emod, ← a4, ← b4, ← Int.add_emod]⟩
theorem ge_iff {F G : Frm} {size : Int} {T : Int → Option Int} (s0 : 0 < size) (uF : Up F.mem size F.high) (uG : Up G.mem size G.high) (h : Firsts F G size T) (n : Int) : geO (T (n % size)) n = true ↔ Beg F G n := by
  constructor
  · intro hg
    cases hT : T (n % size) with
    | none => rw [hT] at hg; cases hg
    | some v =>
      rw [hT] at hg
      have hle : v ≤ n := of_decide_eq_true hg
      obtain ⟨h1, h2, _⟩ := h.is _ v hT
      exact h2.far uF uG s0 hle h1
  · intro hb
    obtain ⟨v, hv, hle⟩ := h.le n hb
    rw [hv]
    exact decide_eq_true hle
theorem neg_mod {a b size : Int} (h : a % size = b % size) : (-a) % size = (-b) % size := by
  rw [Int.emod_eq_emod_iff_emod_sub_eq_zero] at h ⊢
  obtain ⟨k, hk⟩ := Int.dvd_of_emod_eq_zero h
  exact Int.emod_eq_zero_of_dvd ⟨-k, by rw [Int.mul_neg, ← hk]; omega⟩
/-- the tables of sum_of -/
structure SumT (F G N M : Frm) (size : Int) (Tp : Int → Option V) (Tf Td Tl : Int → Option Int) (Tw : Int → Option V) : Prop where
  p : ∀ k, (Tp k).isSome = true ↔ ∃ a b, F.low ≤ a ∧ a < F.high ∧ F.mem a = true ∧ G.low ≤ b ∧ b < G.high ∧ G.mem b = true ∧ k = a + b
  f : Firsts F G size Tf
  d : Firsts N M size Td
  l1 : ∀ k v, Tl k = some v → ∃ j u, Td j = some u ∧ k = (-u) % size ∧ v = -u
  l2 : ∀ j u, Td j = some u → (Tl ((-u) % size)).isSome = true
  w : ∀ k, (Tw k).isSome = true ↔ WholeR F G size k ∨ WholeR G F size k
theorem le_iff {F G N M : Frm} {size : Int} {Tp : Int → Option V} {Tf Td Tl : Int → Option Int} {Tw : Int → Option V} (s0 : 0 < size) (uN : Up N.mem size N.high) (uM : Up M.mem size M.high) (S : SumT F G N M size Tp Tf Td Tl Tw) (n : Int) : leO (Tl (n % size)) n = true ↔ Beg N M (-n) := by
  constructor
  · intro hg
    cases hT : Tl (n % size) with
    | none => rw [hT] at hg; cases hg
    | some v =>
      rw [hT] at hg
      have hle : n ≤ v := of_decide_eq_true hg
      obtain ⟨j, u, hu, e, rfl⟩ := S.l1 _ v hT
      obtain ⟨h1, h2, _⟩ := S.d.is _ u hu
      refine h2.far uN uM s0 (by omega) ?_
      have := neg_mod e
      rw [Int.neg_neg] at this
      exact this.symm
  · intro hb
    obtain ⟨u, hu, hle⟩ := S.d.le (-n) hb
    have e1 := (S.d.is _ u hu).1
    have e2 : (-u) % size = n % size := by
      have := neg_mod (show u % size = (-n) % size from e1)
      rwa [Int.neg_neg] at this
    have := S.l2 _ u hu
    rw [e2] at this
    cases hT : Tl (n % size) with
    | none => rw [hT] at this; cases this
    | some v =>
      obtain ⟨j, u', hu', e, rfl⟩ := S.l1 _ v hT
      have e3 := (S.d.is _ u' hu').1
      have e4 : j = (-n) % size := by
        have := neg_mod e
        rw [Int.neg_neg] at this
        rw [this, e3]
      rw [e4, hu] at hu'
      cases hu'
      exact decide_eq_true (by omega)
theorem sum_set {F G N M : Frm} {size : Int} {Tp : Int → Option V} {Tf Td Tl : Int → Option Int} {Tw : Int → Option V} (LF : Least F) (LG : Least G) (LN : Least N) (LM : Least M) (hN : ∀ n, N.mem n = F.mem (-n)) (hM : ∀ n, M.mem n = G.mem (-n)) (s0 : 0 < size)
    (fl : size % (F.l.length : Int) = 0) (fr : size % (F.r.length : Int) = 0) (gl : size % (G.l.length : Int) = 0) (gr : size % (G.r.length : Int) = 0) (nr : size % (N.r.length : Int) = 0) (mr : size % (M.r.length : Int) = 0) (S : SumT F G N M size Tp Tf Td Tl Tw) : IsSum F.mem G.mem (setB size Tp Tf Tl Tw) := by
  have uF := up_size LF s0 fr
  have uG := up_size LG s0 gr
  have dF := dn_size LF s0 fl
  have dG := dn_size LG s0 gl
  have uN := up_size LN s0 nr
  have uM := up_size LM s0 mr
  obtain ⟨n1, n2⟩ := neg_ends LF LN hN
  obtain ⟨m1, m2⟩ := neg_ends LG LM hM
  intro n
  unfold setB
  rw [Bool.or_eq_true, Bool.or_eq_true, Bool.or_eq_true, S.p, S.w, ge_iff s0 uF uG S.f, le_iff s0 uN uM S]
  constructor
  · rintro (⟨a, b, _, _, a3, _, _, a6, e⟩ | (h | h) | h | h)
    · exact ⟨a, b, a3, a6, e⟩
    · exact h.sum s0 uF dG
    · obtain ⟨a, b, h1, h2, e⟩ := h.sum s0 uG dF
      exact ⟨b, a, h2, h1, by omega⟩
    · exact h.sum
    · obtain ⟨a, b, h1, h2, e⟩ := h.sum
      rw [hN] at h1
      rw [hM] at h2
      exact ⟨-a, -b, h1, h2, by omega⟩
  · rintro ⟨a, b, ha, hb, e⟩
    have ha' : N.mem (-a) = true := by rw [hN, Int.neg_neg]; exact ha
    have hb' : M.mem (-b) = true := by rw [hM, Int.neg_neg]; exact hb
    by_cases a1 : F.high ≤ a
    · by_cases b1 : G.low ≤ b
      · exact .inr (.inr (.inl (.inr ⟨a, b, a1, ha, b1, hb, e⟩)))
      · exact .inr (.inl (.inl (e ▸ whole_of s0 uF dG a1 ha (by omega) hb)))
    · by_cases a2 : F.low ≤ a
      · by_cases b1 : G.high ≤ b
        · exact .inr (.inr (.inl (.inl ⟨a, b, a2, ha, b1, hb, e⟩)))
        · by_cases b2 : G.low ≤ b
          · exact .inl ⟨a, b, a2, by omega, ha, b2, by omega, hb, e⟩
          · exact .inr (.inr (.inr (.inl ⟨-a, -b, by omega, ha', by omega, hb', by omega⟩)))
      · by_cases b1 : G.high ≤ b
        · refine .inr (.inl (.inr ?_))
          rw [e, Int.add_comm]
          exact whole_of s0 uG dF b1 hb (by omega) ha
        · exact .inr (.inr (.inr (.inr ⟨-a, -b, by omega, ha', by omega, hb', by omega⟩)))
end Od
end
section
set_option Elab.async false
set_option linter.all false
set_option maxRecDepth 100000
set_option maxHeartbeats 2000000
set_option autoImplicit false
namespace Od
open PySem PySem.Spec PyProof.Rows L2 C8 Day
abbrev s_sum_of : Stmt := top 31
abbrev N_sum_of : List Str := ["one", "two", "size", "few", "plain", "a", "b", "downs", "lasts", "day", "wholes", "rest"]
abbrev P_sum_of : List Str := ["one", "two"]
theorem sc_sum_of : FnScope N_sum_of P_sum_of (C8.fnScope s_sum_of) := fnScope_by (by decide +kernel)
theorem mod_of_dvd {a b : Nat} (h : a ∣ b) : (b : Int) % (a : Int) = 0 := by
  rw [← Int.natCast_emod, Nat.mod_eq_zero_of_dvd h]
  rfl
theorem mod_lcm {a b : Nat} {p : Int} (hp : 0 < p) (h1 : p % (a : Int) = 0) (h2 : p % (b : Int) = 0) : p % ((Nat.lcm a b : Nat) : Int) = 0 := by
  have d1 : (a : Int) ∣ p := Int.dvd_of_emod_eq_zero h1
  have d2 : (b : Int) ∣ p := Int.dvd_of_emod_eq_zero h2
  have : Nat.lcm a b ∣ p.toNat := Nat.lcm_dvd (by have := Int.natAbs_dvd_natAbs.mpr d1; rw [Int.natAbs_natCast] at this; rwa [show p.natAbs = p.toNat by omega] at this) (by have := Int.natAbs_dvd_natAbs.mpr d2; rw [Int.natAbs_natCast] at this; rwa [show p.natAbs = p.toNat by omega] at this)
  have := mod_of_dvd this
  rwa [show ((p.toNat : Nat) : Int) = p by omega] at this
def elI : V → V → Int
  | .int a, .int b => a + b
  | _, _ => 0
def negI : V → Int
  | .int a => -a
  | _ => 0
def valI : V → Int
  | .int a => a
  | _ => 0
def asI : V → Option Int
  | .int a => some a
  | _ => none
section
variable {P : Program} {w : World} {K : PySem.W.Frag} {mg : Str → Option Value} {base : Heap}
def sp_sum (C : Addr) : Sp := fun vs H Q _ => ∃ (p q : Addr) (f g : Int → Bool) (c b : Int), vs = [.ref p, .ref q] ∧ IsDay C H p f ∧ IsDay C H q g ∧ Ok f c b ∧ Ok g c b ∧ c ≤ 2000 ∧ b ≤ 100000 ∧
  ∀ r H' h, Le H H' → IsDay C H' r h → IsSum f g h → H r = none → Q (.ref r) H'
theorem c_sum_of {C : Addr} (T : Txt K mg) (D : DSC K mg C) (F : DefOf K mg "sum_of" s_sum_of P_sum_of) (C_multiple_of : Cal P w K mg base 2 "multiple_of" sp_multiple_of []) (Q_DaySet_days_in : Met P w K mg base 2 C "days_in" (sp_days_in C) []) (C_firsts_of : Cal P w K mg base 4 "firsts_of" (sp_firsts C) [])
    (C_whole_rests : Cal P w K mg base 3 "whole_rests" (sp_whole C) []) (C_set_of : Cal P w K mg base 6 "set_of" (sp_set_of C) []) (Q_DaySet___neg__ : Met P w K mg base 6 C "__neg__" (sp_neg C) []) : Cal P w K mg base 7 "sum_of" (sp_sum C) [] := by
  obtain ⟨f, fd, F, B⟩ := F
  refine cal0 F B .nil sc_sum_of (fun vs H Q E h => by obtain ⟨_, _, _, _, _, _, rfl, _⟩ := h; rfl) (fun cdv A outer s H vs Q E hr h => ?_)
  obtain ⟨p, q, f, g, c, b, rfl, hp, hq, o1, o2, c1, b1, qq⟩ := h
  have nd := sc_sum_of.nd
  refine ⟨_, (pss_cons (ps_set (i := 2) nd rfl (Or.inr rfl) (pe_c C_multiple_of hr (by decide) rfl (pa_cons (pe_c C_multiple_of hr (by decide) rfl (pa_cons (pe_callB call_len_str (by rfl) T.b_len (by decide +kernel) (pa_cons (pe_fld (pv 0) rfl) pa_nil)) (pa_cons (pe_callB call_len_str (by rfl) T.b_len (by decide +kernel) (pa_cons (pe_fld (pv 0) rfl) pa_nil)) pa_nil))) (pa_cons (pe_c C_multiple_of hr (by decide) rfl (pa_cons (pe_callB call_len_str (by rfl) T.b_len (by decide +kernel) (pa_cons (pe_fld (pv 1) rfl) pa_nil)) (pa_cons (pe_callB call_len_str (by rfl) T.b_len (by decide +kernel) (pa_cons (pe_fld (pv 1) rfl) pa_nil)) pa_nil))) pa_nil))))
      (pss_cons (ps_set (i := 3) nd rfl (Or.inr rfl) (pe_mt Q_DaySet_days_in hr (by decide) (pv 1) (pa_cons (pe_fld (pv 1) rfl) (pa_cons (pe_fld (pv 1) rfl) pa_nil))))
      (pss_cons (ps_setDc2 (i := 4) (own := [("a", 5), ("b", 6)]) (vs1 := [6]) (g := gName 5) (g1 := gName 6) (by rfl) nd rfl rfl (swD_true rfl rfl rfl (by decide +kernel)) (pi_list (pe_mt Q_DaySet_days_in hr (by decide) (pv 0) (pa_cons (pe_fld (pv 0) rfl) (pa_cons (pe_fld (pv 0) rfl) pa_nil)))) (blkOk_by (own := [("a", 5), ("b", 6)]) (N := N_sum_of) (sc := C8.fnScope s_sum_of) (by decide +kernel)) (by decide) (fun _ _ _ _ _ => pg_name (i := 5) nd rfl (Or.inl rfl)) (fun _ _ _ _ _ => pts_nil) (fun _ _ _ _ _ => (pi_listK (K := K) rfl (pv 3))) (fun _ _ _ _ _ => pg_name (i := 6) nd rfl (Or.inl rfl)) (fun _ _ _ _ _ => pts_nil) (fun _ _ _ _ _ => (pe_op op_add (pv 5) (pv 6))) (fun _ _ _ _ _ => pe_bl))
      (pss_cons (ps_set (i := 7) nd rfl (Or.inl rfl) (pe_c C_firsts_of hr (by decide) rfl (pa_cons (pe_un (un_ownNegM Q_DaySet___neg__ hr (by decide)) (pv 0)) (pa_cons (pe_un (un_ownNegM Q_DaySet___neg__ hr (by decide)) (pv 1)) (pa_cons (pv 2) pa_nil)))))
      (pss_cons (ps_lock (ps_setDc (i := 8) (own := [("day", 9)]) (g := gName 9) (by rfl) nd rfl rfl (swD_true rfl rfl rfl (by decide +kernel)) (pi_values (pv 7)) (blkOk_by (own := [("day", 9)]) (N := N_sum_of) (sc := C8.fnScope s_sum_of) (by decide +kernel)) (fun _ _ _ _ _ => pg_name (i := 9) nd rfl (Or.inl rfl)) (fun _ _ _ _ _ => pts_nil) (fun _ _ _ _ _ => (pe_op op_mod (pe_un un_neg (pv 9)) (pv 2))) (fun _ _ _ _ _ => (pe_un un_neg (pv 9)))))
      (pss_cons (ps_setDc (i := 10) (own := [("rest", 11)]) (g := gName 11) (by rfl) nd rfl rfl (swD_true rfl rfl rfl (by decide +kernel)) (pi_list (pe_op op_cat (pe_c C_whole_rests hr (by decide) rfl (pa_cons (pv 0) (pa_cons (pv 1) (pa_cons (pv 2) pa_nil)))) (pe_c C_whole_rests hr (by decide) rfl (pa_cons (pv 1) (pa_cons (pv 0) (pa_cons (pv 2) pa_nil)))))) (blkOk_by (own := [("rest", 11)]) (N := N_sum_of) (sc := C8.fnScope s_sum_of) (by decide +kernel)) (fun _ _ _ _ _ => pg_name (i := 11) nd rfl (Or.inl rfl)) (fun _ _ _ _ _ => pts_nil) (fun _ _ _ _ _ => (pv 11)) (fun _ _ _ _ _ => pe_bl))
      (pss_one (ps_ret (pe_c C_set_of hr (by decide) rfl (pa_cons (pv 2) (pa_cons (pv 4) (pa_cons (pe_c C_firsts_of hr (by decide) rfl (pa_cons (pv 0) (pa_cons (pv 1) (pa_cons (pv 2) pa_nil)))) (pa_cons (pv 8) (pa_cons (pv 10) pa_nil)))))))))))))), ?_⟩
  obtain ⟨F, hpF, rfl⟩ := hp.form
  obtain ⟨G, hqG, rfl⟩ := hq.form
  obtain ⟨dx, L, z, hp1⟩ := id hpF
  obtain ⟨dy, LG, zG, hq1⟩ := id hqG
  obtain ⟨f1, f2, f3, f4, f5, f6, f7⟩ := o1.sizes L
  obtain ⟨g1, g2, g3, g4, g5, g6, g7⟩ := o2.sizes LG
  have lFl := prim_len L.l0
  have lFr := prim_len L.r0
  have lGl := prim_len LG.l0
  have lGr := prim_len LG.r0
  have c0 := o1.c0
  have b0 := o1.b0
  have lhF := F.low_high
  have lhG := G.low_high
  refine ⟨_, rfl, _, _, _, _, _, rfl, hp1, D.cl, D.n_left, f_left F, _, rfl, szl z.l, _, rfl, _, _, _, _, _, rfl, hp1, D.cl, D.n_right, f_right F, _, rfl, szl z.r, ?_⟩
  rw [rowS_len, rowS_len]
  refine ⟨F.l.length, F.r.length, rfl, lFl, lFr, by have := z.l; omega, by have := z.r; omega, ?_⟩
  refine ⟨_, rfl, _, _, _, _, _, rfl, hq1, D.cl, D.n_left, f_left G, _, rfl, szl zG.l, _, rfl, _, _, _, _, _, rfl, hq1, D.cl, D.n_right, f_right G, _, rfl, szl zG.r, ?_⟩
  rw [rowS_len, rowS_len]
  refine ⟨G.l.length, G.r.length, rfl, lGl, lGr, by have := zG.l; omega, by have := zG.r; omega, ?_⟩
  have la := lcm_le c0 f6 f7
  have lb := lcm_le c0 g6 g7
  have a0 : 0 < Nat.lcm F.l.length F.r.length := Nat.lcm_pos lFl lFr
  have b0' : 0 < Nat.lcm G.l.length G.r.length := Nat.lcm_pos lGl lGr
  have da : c % ((Nat.lcm F.l.length F.r.length : Nat) : Int) = 0 := mod_lcm c0 f6 f7
  have db : c % ((Nat.lcm G.l.length G.r.length : Nat) : Int) = 0 := mod_lcm c0 g6 g7
  have lc := lcm_le c0 da db
  have hc0 := Nat.lcm_pos a0 b0'
  refine ⟨Nat.lcm F.l.length F.r.length, Nat.lcm G.l.length G.r.length, rfl, a0, b0', by omega, by omega, ?_⟩
  have e1 : ((Nat.lcm (Nat.lcm F.l.length F.r.length) (Nat.lcm G.l.length G.r.length) : Nat) : Int) % (F.l.length : Int) = 0 := mod_of_dvd (Nat.dvd_trans (Nat.dvd_lcm_left _ _) (Nat.dvd_lcm_left _ _))
  have e2 : ((Nat.lcm (Nat.lcm F.l.length F.r.length) (Nat.lcm G.l.length G.r.length) : Nat) : Int) % (F.r.length : Int) = 0 := mod_of_dvd (Nat.dvd_trans (Nat.dvd_lcm_right _ _) (Nat.dvd_lcm_left _ _))
  have e3 : ((Nat.lcm (Nat.lcm F.l.length F.r.length) (Nat.lcm G.l.length G.r.length) : Nat) : Int) % (G.l.length : Int) = 0 := mod_of_dvd (Nat.dvd_trans (Nat.dvd_lcm_left _ _) (Nat.dvd_lcm_right _ _))
  have e4 : ((Nat.lcm (Nat.lcm F.l.length F.r.length) (Nat.lcm G.l.length G.r.length) : Nat) : Int) % (G.r.length : Int) = 0 := mod_of_dvd (Nat.dvd_trans (Nat.dvd_lcm_right _ _) (Nat.dvd_lcm_right _ _))
  have s0 : 0 < ((Nat.lcm (Nat.lcm F.l.length F.r.length) (Nat.lcm G.l.length G.r.length) : Nat) : Int) := by omega
  generalize ((Nat.lcm (Nat.lcm F.l.length F.r.length) (Nat.lcm G.l.length G.r.length) : Nat) : Int) = size at *
  -- few
  refine ⟨_, rfl, _, _, _, rfl, hq1, by rfl, _, rfl, _, _, _, _, _, rfl, hq1, D.cl, D.n_low, f_low G, _, rfl, _, _, _, _, _, rfl, hq1, D.cl, D.n_high, f_high G, q, _, _, _, rfl, hq, ⟨by omega, by omega, by omega, by omega⟩, by omega, ?_⟩
  intro d1 H1 l1 n1 m1
  -- plain
  obtain ⟨_, _, _, hp2⟩ := id (hpF.le l1)
  refine ⟨_, rfl, _, _, _, rfl, hp2, by rfl, _, rfl, _, _, _, _, _, rfl, hp2, D.cl, D.n_low, f_low F, _, rfl, _, _, _, _, _, rfl, hp2, D.cl, D.n_high, f_high F, p, _, _, _, rfl, hp.le l1, ⟨by omega, by omega, by omega, by omega⟩, by omega, ?_⟩
  intro d2 H2 l2 n2 m2
  have m12 := l2 _ _ m1
  refine ⟨d2, rfl, ⟨_, .of m2⟩, fun dp hdp => ?_⟩
  refine dc2_pure (XS := (daysIn F.mem F.low F.high).map V.int) (YS := (daysIn G.mem G.low G.high).map V.int) (J1 := Itl K d1) walk_list gives_at walk_list gives_at hdp (fun H le => .of (le _ _ m2)) (fun H le => .of (le _ _ m12)) elI (.bl true) (F.low + G.low) (F.high + G.high - (F.low + G.low)).toNat ?_ ?_ (fun _ => rfl) (fun _ _ => rfl) ?_ ?_ ?_ ?_
  · have : sizeLine = 16777216 := sizeLine_eq
    omega
  · intro x hx y hy
    obtain ⟨a, ha, rfl⟩ := List.mem_map.mp hx
    obtain ⟨b', hb', rfl⟩ := List.mem_map.mp hy
    have h1 := mem_daysIn.mp ha
    have h2 := mem_daysIn.mp hb'
    show _ ≤ a + b' ∧ a + b' < _
    omega
  · intro x H5 _ le R hR
    exact ⟨_, rfl, d1, rfl, ⟨_, .of (le _ _ m12)⟩, hR⟩
  · intro x y H5 hx hy le N hN
    obtain ⟨a, _, rfl⟩ := List.mem_map.mp hx
    obtain ⟨b', _, rfl⟩ := List.mem_map.mp hy
    exact ⟨_, rfl, _, rfl, a, b', rfl, rfl, hN⟩
  · intro x y H5 hx hy le N hN
    exact hN
  intro H3 kp Tp l3 m3 tp hTp
  have L3 : Le H H3 := (l1.trans l2).trans l3
  -- downs
  have bFn : Bnd F := ⟨by omega, by omega⟩
  have bGn : Bnd G := ⟨by omega, by omega⟩
  obtain ⟨_, _, _, hp3⟩ := id (hpF.le L3)
  refine ⟨_, rfl, _, _, _, rfl, hp3, p, _, rfl, hp.le L3, ?_⟩
  intro r1 H4 l4 dN n4
  obtain ⟨_, _, _, hq4⟩ := id ((hqG.le L3).le l4)
  refine ⟨_, rfl, _, _, _, rfl, hq4, q, _, rfl, (hq.le L3).le l4, ?_⟩
  intro r2 H5 l5 dM n5
  obtain ⟨N, hN, eN⟩ := dN.form
  obtain ⟨M, hM, eM⟩ := dM.form
  have hNe : ∀ n, N.mem n = F.mem (-n) := fun n => congrFun eN n
  have hMe : ∀ n, M.mem n = G.mem (-n) := fun n => congrFun eM n
  obtain ⟨_, LN, zN, _⟩ := id hN
  obtain ⟨_, LM, zM, _⟩ := id hM
  have oN := o1.neg (by omega)
  have oM := o2.neg (by omega)
  rw [← eN] at oN
  rw [← eM] at oM
  obtain ⟨nn1, nn2, nn3, nn4, nn5, nn6, nn7⟩ := oN.sizes LN
  obtain ⟨mm1, mm2, mm3, mm4, mm5, mm6, mm7⟩ := oM.sizes LM
  have lhN := N.low_high
  have lhM := M.low_high
  have nr : size % (N.r.length : Int) = 0 := LN.r_dvd (b := 1 - F.low) fun n hn => by
    rw [hNe, hNe, show -(n + size) = -n - size by omega]
    exact dn_size L s0 e1 (-n) (by omega)
  have mr : size % (M.r.length : Int) = 0 := LM.r_dvd (b := 1 - G.low) fun n hn => by
    rw [hMe, hMe, show -(n + size) = -n - size by omega]
    exact dn_size LG s0 e3 (-n) (by omega)
  refine ⟨_, rfl, r1, r2, N, M, size, rfl, hN.le l5, hM, s0, by omega, nr, mr, ⟨by omega, by omega⟩, ⟨by omega, by omega⟩, ?_⟩
  intro dd H6 kd Td l6 n6 m6 td fd'
  -- lasts
  refine ⟨dd, .dK kd, m6, trivial, fun od => ?_⟩
  have eL : upd H6 dd (.frz od (.dK kd)) dd = some (.frz od (.dK kd)) := upd_self
  refine ⟨_, rfl, dd, od, kd, rfl, eL, fun dl hdl => ?_⟩
  obtain ⟨us, hus, mus, lus⟩ := td.vals
  have klen : ∀ (kk : List (Key × V)) (TT : Int → Option V), Tab kk TT → (∀ k v, TT k = some v → 0 ≤ k ∧ k < size) → kk.length ≤ size.toNat := fun kk TT ht hb => ht.len (lo := 0) fun k v hk => by have := hb k v hk; omega
  have ltd : kd.length ≤ size.toNat := klen kd _ td fun k v hk => by
    obtain ⟨m, hm, rfl⟩ := Option.map_eq_some_iff.mp hk
    have := (fd'.is k m hm).1
    have h1 := Int.emod_nonneg m (show size ≠ 0 by omega)
    have h2 := Int.emod_lt_of_pos m s0
    omega
  refine dc_pure (XS := us.map V.int) (by rw [List.length_map, lus]; exact walk_values) (by rw [← hus]; exact gives_vals) hdl (fun H le => le _ _ eL) (fun x => negI x % size) (fun x => .int (negI x)) 0 size.toNat ?_ ?_ (fun _ => rfl) ?_ ?_ ?_
  · have : sizeLine = 16777216 := sizeLine_eq
    omega
  · intro x _
    have h1 := Int.emod_nonneg (negI x) (show size ≠ 0 by omega)
    have h2 := Int.emod_lt_of_pos (negI x) s0
    omega
  · intro x H7 hx le N' hN'
    obtain ⟨a, _, rfl⟩ := List.mem_map.mp hx
    exact ⟨_, rfl, _, rfl, _, rfl, _, _, rfl, rfl, s0, hN'⟩
  · intro x H7 hx le N' hN'
    obtain ⟨a, _, rfl⟩ := List.mem_map.mp hx
    exact ⟨_, rfl, _, rfl, hN'⟩
  intro H7 kl Tl0 l7 m7 tl0 tl1 tl2
  refine ⟨l7 _ _ eL, ?_⟩
  have l67 : Le H6 (upd H7 dd (.dK kd)) := Le.unlock m6 l7
  have ndl : dl ≠ dd := fun c => by rw [c, eL] at hdl; cases hdl
  have m7' : upd H7 dd (.dK kd) dl = some (.dK kl) := by rw [upd_ne ndl]; exact m7
  generalize upd H7 dd (.dK kd) = H8 at l67 m7'
  have L8 : Le H H8 := ((((L3.trans l4).trans l5).trans l6).trans l67)
  have m38 : H8 dp = some (.dK kp) := l67 _ _ (l6 _ _ (l5 _ _ (l4 _ _ m3)))
  have tl : TabI kl (fun k => (Tl0 k).bind asI) := tl0.to fun k => by
    show Tl0 k = ((Tl0 k).bind asI).map V.int
    cases h : Tl0 k with
    | none => rfl
    | some v =>
      obtain ⟨x, hx, _, rfl⟩ := tl1 k v h
      rfl
  -- wholes
  refine ⟨_, rfl, _, rfl, _, rfl, p, q, F, G, size, rfl, hpF.le L8, hqG.le L8, s0, by omega, bFn, bGn, ?_⟩
  intro w1 H9 xs1 l9 n9 m9 z9 g9
  refine ⟨_, rfl, _, rfl, _, rfl, q, p, G, F, size, rfl, (hqG.le L8).le l9, (hpF.le L8).le l9, s0, by omega, bGn, bFn, ?_⟩
  intro w2 H10 xs2 l10 n10 m10 z10 g10
  refine ⟨w1, w2, _, _, rfl, rfl, l10 _ _ m9, m10, ?_, ?_⟩
  · rw [List.length_map, List.length_map]; exact le_szl _ (by omega)
  intro w3 n11
  rw [← List.map_append]
  refine ⟨w3, rfl, ⟨_, .of upd_self⟩, fun dw hdw => ?_⟩
  refine dc_pure (XS := (xs1 ++ xs2).map V.int) walk_list gives_at hdw (fun H le => .of (le _ _ upd_self)) valI (fun _ => .bl true) 0 size.toNat ?_ ?_ (fun _ => rfl) ?_ ?_ ?_
  · have : sizeLine = 16777216 := sizeLine_eq
    omega
  · intro x hx
    obtain ⟨a, ha, rfl⟩ := List.mem_map.mp hx
    show 0 ≤ a ∧ a < _
    have : ∃ y, a = y % size := by
      rcases List.mem_append.mp ha with h | h
      · obtain ⟨_, _, _, _, _, _, _, _, e⟩ := (g9 a).mp h
        exact ⟨_, e⟩
      · obtain ⟨_, _, _, _, _, _, _, _, e⟩ := (g10 a).mp h
        exact ⟨_, e⟩
    obtain ⟨y, rfl⟩ := this
    have h1 := Int.emod_nonneg y (show size ≠ 0 by omega)
    have h2 := Int.emod_lt_of_pos y s0
    omega
  · intro x H12 hx le N' hN'
    obtain ⟨a, _, rfl⟩ := List.mem_map.mp hx
    exact ⟨_, rfl, hN'⟩
  · intro x H12 hx le N' hN'
    exact hN'
  intro H12 kw Tw l12 m12' tw tw1 tw2
  have l812 : Le H8 H12 := (l9.trans (l10.trans (Le.new n11))).trans l12
  have L12 : Le H H12 := L8.trans l812
  -- the set
  refine ⟨_, rfl, _, rfl, _, rfl, _, rfl, _, rfl, p, q, F, G, size, rfl, hpF.le L12, hqG.le L12, s0, by omega, e2, e4, bFn, bGn, ?_⟩
  intro df H13 kf Tf l13 n13 m13 tf ff
  refine ⟨_, rfl, _, rfl, size, dp, df, dl, dw, kp, kf, kl, kw, Tp, Tf, _, Tw, 2 * b + 10 * c + 10, rfl, l13 _ _ (l812 _ _ m38), m13, l13 _ _ (l812 _ _ m7'), l13 _ _ m12', tp, tf, tl, tw, ?_, ?_, s0, by omega, by omega, by omega, ?_⟩
  · have h1 := tp.len (lo := F.low + G.low) (n := (F.high + G.high - (F.low + G.low)).toNat) fun k v hk => by
      obtain ⟨_, x, hx, y, hy, rfl⟩ := (hTp k v).mp hk
      obtain ⟨a, ha, rfl⟩ := List.mem_map.mp hx
      obtain ⟨b', hb', rfl⟩ := List.mem_map.mp hy
      have h1 := mem_daysIn.mp ha
      have h2 := mem_daysIn.mp hb'
      show _ ≤ a + b' ∧ a + b' < _
      omega
    have h2 := klen kf _ tf fun k v hk => by
      obtain ⟨m, hm, rfl⟩ := Option.map_eq_some_iff.mp hk
      have := (ff.is k m hm).1
      have h1 := Int.emod_nonneg m (show size ≠ 0 by omega)
      have h2 := Int.emod_lt_of_pos m s0
      omega
    have h3 := klen kl _ tl0 fun k v hk => by
      obtain ⟨x, hx, rfl, _⟩ := tl1 k v hk
      have h1 := Int.emod_nonneg (negI x) (show size ≠ 0 by omega)
      have h2 := Int.emod_lt_of_pos (negI x) s0
      omega
    omega
  · constructor
    · intro k v hk
      obtain ⟨_, x, hx, y, hy, rfl⟩ := (hTp k v).mp hk
      obtain ⟨a, ha, rfl⟩ := List.mem_map.mp hx
      obtain ⟨b', hb', rfl⟩ := List.mem_map.mp hy
      have h1 := mem_daysIn.mp ha
      have h2 := mem_daysIn.mp hb'
      show _ ≤ a + b' ∧ a + b' ≤ _
      omega
    · intro k v hk
      obtain ⟨_, _, h1, h2⟩ := ff.is k v hk
      omega
    · intro k v hk
      cases h : Tl0 k with
      | none => simp [h] at hk
      | some v0 =>
        obtain ⟨x, hx, _, rfl⟩ := tl1 k v0 h
        have hk : asI (V.int (negI x)) = some v := by simpa [h] using hk
        have hk : negI x = v := by simpa [asI] using hk
        obtain ⟨u, hu, rfl⟩ := List.mem_map.mp hx
        obtain ⟨j, hj⟩ := (mus u).mp hu
        obtain ⟨_, _, h1, h2⟩ := fd'.is j u hj
        have hk : -u = v := hk
        omega
  · intro r H14 l14 hr hr0
    refine qq r H14 _ ((L12.trans l13).trans l14) hr ?_ ((L12.trans l13).none hr0)
    refine sum_set L LG LN LM hNe hMe s0 e1 e2 e3 e4 nr mr (Td := Td) ⟨?_, ff, fd', ?_, ?_, ?_⟩
    · intro k
      constructor
      · intro hk
        obtain ⟨v, hv⟩ := Option.isSome_iff_exists.mp hk
        obtain ⟨_, x, hx, y, hy, rfl⟩ := (hTp k v).mp hv
        obtain ⟨a, ha, rfl⟩ := List.mem_map.mp hx
        obtain ⟨b', hb', rfl⟩ := List.mem_map.mp hy
        have h1 := mem_daysIn.mp ha
        have h2 := mem_daysIn.mp hb'
        exact ⟨a, b', h1.1, h1.2.1, h1.2.2, h2.1, h2.2.1, h2.2.2, rfl⟩
      · rintro ⟨a, b', a1, a2, a3, a4, a5, a6, rfl⟩
        rw [(hTp (a + b') (.bl true)).mpr ⟨rfl, .int a, List.mem_map.mpr ⟨a, mem_daysIn.mpr ⟨a1, a2, a3⟩, rfl⟩, .int b', List.mem_map.mpr ⟨b', mem_daysIn.mpr ⟨a4, a5, a6⟩, rfl⟩, rfl⟩]
        rfl
    · intro k v hk
      cases h : Tl0 k with
      | none => simp [h] at hk
      | some v0 =>
        obtain ⟨x, hx, ek, rfl⟩ := tl1 k v0 h
        have hk : asI (V.int (negI x)) = some v := by simpa [h] using hk
        have hk : negI x = v := by simpa [asI] using hk
        obtain ⟨u, hu, rfl⟩ := List.mem_map.mp hx
        obtain ⟨j, hj⟩ := (mus u).mp hu
        exact ⟨j, u, hj, ek, hk.symm⟩
    · intro j u hj
      have := tl2 (.int u) (List.mem_map.mpr ⟨u, (mus u).mpr ⟨j, hj⟩, rfl⟩)
      obtain ⟨v, hv⟩ := Option.isSome_iff_exists.mp this
      have hv' : Tl0 ((-u) % size) = some v := hv
      obtain ⟨x, hx, _, rfl⟩ := tl1 _ v hv'
      show ((Tl0 ((-u) % size)).bind asI).isSome = true
      rw [hv']
      rfl
    · intro k
      constructor
      · intro hk
        obtain ⟨v, hv⟩ := Option.isSome_iff_exists.mp hk
        obtain ⟨x, hx, rfl, _⟩ := tw1 k v hv
        obtain ⟨a, ha, rfl⟩ := List.mem_map.mp hx
        rcases List.mem_append.mp ha with h | h
        · exact .inl ((g9 a).mp h)
        · exact .inr ((g10 a).mp h)
      · intro hk
        have : k ∈ xs1 ++ xs2 := by
          rcases hk with h | h
          · exact List.mem_append_left _ ((g9 k).mpr h)
          · exact List.mem_append_right _ ((g10 k).mpr h)
        exact tw2 (.int k) (List.mem_map.mpr ⟨k, this, rfl⟩)
end
end Od
end
section
set_option Elab.async false
set_option linter.all false
set_option maxRecDepth 100000
set_option maxHeartbeats 2000000
set_option autoImplicit false
namespace Od
open PySem PySem.Spec PyProof.Rows L2 C8 Day
abbrev s_DaySet___add__ : Stmt := inClass (top 24) 27
abbrev N_DaySet___add__ : List Str := ["self", "other"]
abbrev P_DaySet___add__ : List Str := ["self", "other"]
theorem sc_DaySet___add__ : FnScope N_DaySet___add__ P_DaySet___add__ (C8.fnScope s_DaySet___add__) := fnScope_by (by decide +kernel)
section
variable {P : Program} {w : World} {K : PySem.W.Frag} {mg : Str → Option Value} {base : Heap}
theorem q_add {C : Addr} (T : Txt K mg) (D : DSC K mg C) (M : MetOf K C "__add__" "DaySet.__add__" s_DaySet___add__ P_DaySet___add__) (C_sum_of : Cal P w K mg base 7 "sum_of" (sp_sum C) []) : Met P w K mg base 8 C "__add__" (sp_sum C) [] := by
  obtain ⟨g, fd, M, F, B⟩ := M
  refine met0 D.cl M F B sc_DaySet___add__ (fun vs H Q E h => by obtain ⟨_, _, _, _, _, _, rfl, _⟩ := h; rfl) (fun cdv A outer s H vs Q E hr h => ?_)
  obtain ⟨p, q, f, g, c, b, rfl, h⟩ := h
  have nd := sc_DaySet___add__.nd
  refine ⟨_, (pss_one (ps_ret (pe_c C_sum_of hr (by decide) rfl (pa_cons (pv 0) (pa_cons (pv 1) pa_nil))))), ?_⟩
  exact ⟨_, rfl, _, rfl, p, q, f, g, c, b, rfl, h⟩
end
end Od
end
section
set_option Elab.async false
set_option linter.all false
set_option maxRecDepth 100000
set_option maxHeartbeats 2000000
set_option autoImplicit false
namespace Od
open PySem PySem.Spec PyProof.Rows L2 C8 Day
abbrev s_DaySet_next_from : Stmt := inClass (top 24) 33
abbrev N_DaySet_next_from : List Str := ["self", "n", "low", "high", "start", "stop", "found", "day"]
abbrev P_DaySet_next_from : List Str := ["self", "n"]
theorem sc_DaySet_next_from : FnScope N_DaySet_next_from P_DaySet_next_from (C8.fnScope s_DaySet_next_from) := fnScope_by (by decide +kernel)
abbrev s_DaySet_last_until : Stmt := inClass (top 24) 34
abbrev N_DaySet_last_until : List Str := ["self", "n", "found"]
abbrev P_DaySet_last_until : List Str := ["self", "n"]
theorem sc_DaySet_last_until : FnScope N_DaySet_last_until P_DaySet_last_until (C8.fnScope s_DaySet_last_until) := fnScope_by (by decide +kernel)
theorem daysIn_up (f : Int → Bool) (a b : Int) : (daysIn f a b).Pairwise (· < ·) := by
  unfold daysIn
  refine List.Pairwise.filter _ ?_
  rw [List.pairwise_map]
  refine List.pairwise_lt_range.imp fun {x y} h => ?_
  omega
theorem fm_filterI (ds : List Int) (p : Int → Bool) : ((List.range (ds.map V.int).length).filterMap fun i => (ds[i]?).bind fun m => if p m = true then some (V.int m) else none) = (ds.filter p).map V.int := by
  rw [List.length_map]
  have h := List.filterMap_filterMap (f := fun i => ds[i]?) (g := fun m => if p m = true then some (V.int m) else none) (l := List.range ds.length)
  rw [← h, fm_get]
  clear h
  induction ds with
  | nil => rfl
  | cons a l ih =>
    rw [List.filterMap_cons, List.filter_cons]
    cases hp : p a with
    | true => simp [ih]
    | false => simp [ih]
theorem atI_zero {α : Type} (a : α) (l : List α) : atI (a :: l) 0 = some a := atI_nat (j := 0) rfl
def optV : Option Int → V
  | none => .non
  | some d => .int d
def IsNext (f : Int → Bool) (n : Int) : Option Int → Prop
  | none => ∀ m, n ≤ m → f m = false
  | some d => n ≤ d ∧ f d = true ∧ ∀ m, n ≤ m → m < d → f m = false
section
variable {P : Program} {w : World} {K : PySem.W.Frag} {mg : Str → Option Value} {base : Heap}
def sp_next (C : Addr) : Sp := fun vs H Q _ => ∃ (p : Addr) (n : Int) (f : Int → Bool) (c b : Int), vs = [.ref p, .int n] ∧ IsDay C H p f ∧ Ok f c b ∧ -10000000 ≤ n ∧ n ≤ 10000000 ∧ ∀ o H', Le H H' → IsNext f n o → Q (optV o) H'
theorem q_next {C : Addr} (T : Txt K mg) (D : DSC K mg C) (M : MetOf K C "next_from" "DaySet.next_from" s_DaySet_next_from P_DaySet_next_from) (Q_DaySet_days_in : Met P w K mg base 2 C "days_in" (sp_days_in C) []) : Met P w K mg base 3 C "next_from" (sp_next C) [] := by
  obtain ⟨g, fd, M, F, B⟩ := M
  refine met0 D.cl M F B sc_DaySet_next_from (fun vs H Q E h => by obtain ⟨_, _, _, _, _, rfl, _⟩ := h; rfl) (fun cdv A outer s H vs Q E hr h => ?_)
  obtain ⟨p, n, f, c, b, rfl, hp, o1, n0, n1, qq⟩ := h
  have nd := sc_DaySet_next_from.nd
  refine ⟨_, (pss_cons (ps_par (i := 2) (j := 3) (by rfl) nd rfl rfl (by decide) rfl rfl (pa_cons (pe_callB (call_max2 rfl) (by rfl) T.b_max (by decide +kernel) (pa_cons (pe_callTy call_int1 (by rfl) T.b_int (by decide +kernel) (pa_cons (pv 1) pa_nil)) (pa_cons (pe_callTy call_int1 (by rfl) T.b_int (by decide +kernel) (pa_cons (pe_fld (pv 0) rfl) pa_nil)) pa_nil))) (pa_cons (pe_callB (call_max2 rfl) (by rfl) T.b_max (by decide +kernel) (pa_cons (pe_callTy call_int1 (by rfl) T.b_int (by decide +kernel) (pa_cons (pv 1) pa_nil)) (pa_cons (pe_callTy call_int1 (by rfl) T.b_int (by decide +kernel) (pa_cons (pe_fld (pv 0) rfl) pa_nil)) pa_nil))) pa_nil)) (by rfl))
      (C8.pss_cut (ps_for PassesOwn.never rfl (pi_list (pe_lst (pa_cons (pe_tup (pa_cons (pv 1) (pa_cons (pe_op op_add (pv 1) (pe_callB call_len_str (by rfl) T.b_len (by decide +kernel) (pa_cons (pe_fld (pv 0) rfl) pa_nil))) pa_nil))) (pa_cons (pe_tup (pa_cons (pv 2) (pa_cons (pv 3) pa_nil))) (pa_cons (pe_tup (pa_cons (pv 3) (pa_cons (pe_op op_add (pv 3) (pe_callB call_len_str (by rfl) T.b_len (by decide +kernel) (pa_cons (pe_fld (pv 0) rfl) pa_nil))) pa_nil))) pa_nil))))) (pg_tup rfl (pgs_cons (pg_name (i := 4) nd rfl (Or.inr rfl)) (pgs_cons (pg_name (i := 5) nd rfl (Or.inl rfl)) pgs_nil))) (pss_cons (ps_setLc (i := 6) (own := [("day", 7)]) (g := gName 7) (by rfl) nd rfl rfl (sw_true rfl rfl rfl (by decide +kernel)) (pi_list (pe_mt Q_DaySet_days_in hr (by decide) (pv 0) (pa_cons (pv 4) (pa_cons (pv 5) pa_nil)))) (blkOk_by (own := [("day", 7)]) (N := N_DaySet_next_from) (sc := C8.fnScope s_DaySet_next_from) (by decide +kernel)) (fun _ _ _ _ _ => pg_name (i := 7) nd rfl (Or.inl rfl)) (fun _ _ _ _ _ => pts_one (PW.pt (pw_or (pt_cmpR op_ne (pv 4) (pv 1) (nomark _)) (pw_or (pt_cmpR op_lt (pv 7) (pe_fldK (K := K) rfl (pe_fld (pv 0) rfl)) (nomark _)) (pw_or1 (pt_cmpR op_ge (pv 1) (pe_fldK (K := K) rfl (pe_fld (pv 0) rfl)) (nomark _))))))) (fun _ _ _ _ _ => (pv 7)))
      (pss_one (ps_if (pt_cmpR (op_neE hr.units) (pv 6) (pe_lst pa_nil) (nomark _)) (pss_one (ps_ret (pe_ix ix_list (pv 6) pe_int (fun _ _ => rfl)))) pss_nil))))
      (pss_one (ps_ret pe_non)))), ?_⟩
  obtain ⟨F, hpF, rfl⟩ := hp.form
  obtain ⟨dx, L, z, hp1⟩ := id hpF
  obtain ⟨f1, f2, f3, f4, f5, f6, f7⟩ := o1.sizes L
  have c0 := o1.c0; have c1 := o1.c1; have b0 := o1.b0; have b1 := o1.b1
  have lh := F.low_high
  have lFl := prim_len L.l0
  have lFr := prim_len L.r0
  refine ⟨_, rfl, .inl ⟨_, rfl, ?_⟩⟩
  refine ⟨_, rfl, _, _, _, _, _, rfl, hp1, D.cl, D.n_low, f_low F, .inl ⟨_, rfl, ?_⟩⟩
  refine ⟨_, _, rfl, ?_⟩
  refine ⟨_, rfl, .inl ⟨_, rfl, ?_⟩⟩
  refine ⟨_, rfl, _, _, _, _, _, rfl, hp1, D.cl, D.n_high, f_high F, .inl ⟨_, rfl, ?_⟩⟩
  refine ⟨_, _, rfl, _, _, rfl, ?_⟩
  have hlo : ∃ lo, (if F.low > n then F.low else n) = lo ∧ n ≤ lo ∧ F.low ≤ lo ∧ (lo = n ∨ lo = F.low) := ⟨_, rfl, by split <;> omega, by split <;> omega, by split <;> omega⟩
  have hhi : ∃ hi, (if F.high > n then F.high else n) = hi ∧ n ≤ hi ∧ F.high ≤ hi ∧ (hi = n ∨ hi = F.high) := ⟨_, rfl, by split <;> omega, by split <;> omega, by split <;> omega⟩
  obtain ⟨lo, elo, lo1, lo2, lo3⟩ := hlo
  obtain ⟨hi, ehi, hi1, hi2, hi3⟩ := hhi
  rw [elo, ehi]
  refine ⟨fun σ' H' => Le H H' ∧ ∀ m, n ≤ m → F.mem m = false, ?_, fun σ' H' h => qq none H' h.1 h.2⟩
  refine ⟨_, rfl, _, rfl, _, rfl, _, _, _, _, _, rfl, hp1, D.cl, D.n_left, f_left F, _, rfl, szl z.l, _, _, rfl, rfl, le_szl 2 (by decide), fun t1 h1 => ?_⟩
  refine ⟨_, rfl, _, rfl, le_szl 2 (by decide), fun t2 h2 => ?_⟩
  have hp3 : upd (upd H t1 (.tup [.int n, .int (n + ((rowS F.l).length : Int))])) t2 (.tup [.int lo, .int hi]) p = some (.ins C dx (fldF F)) := ((Le.new h1).trans (Le.new h2)) _ _ hp1
  refine ⟨_, rfl, _, rfl, _, rfl, _, _, _, _, _, rfl, hp3, D.cl, D.n_right, f_right F, _, rfl, szl z.r, _, _, rfl, rfl, le_szl 2 (by decide), fun t3 h3 => ?_⟩
  refine ⟨le_szl 3 (by decide), fun d hd => ?_⟩
  refine ⟨d, rfl, ⟨_, .of upd_self⟩, ?_⟩
  generalize hHd : upd (upd (upd (upd H t1 (.tup [.int n, .int (n + ((rowS F.l).length : Int))])) t2 (.tup [.int lo, .int hi])) t3 (.tup [.int hi, .int (hi + ((rowS F.r).length : Int))])) d (.lst [.ref t1, .ref t2, .ref t3]) = Hd
  have lHd : Le H Hd := by
    rw [← hHd]
    exact (((Le.new h1).trans (Le.new h2)).trans (Le.new h3)).trans (Le.new hd)
  have ed : Hd d = some (.lst [.ref t1, .ref t2, .ref t3]) := by rw [← hHd]; exact upd_self
  have e1 : Hd t1 = some (.tup [.int n, .int (n + (F.l.length : Int))]) := by
    rw [← hHd, ← rowS_len]
    exact (((Le.new h2).trans (Le.new h3)).trans (Le.new hd)) _ _ upd_self
  have e2 : Hd t2 = some (.tup [.int lo, .int hi]) := by
    rw [← hHd]
    exact ((Le.new h3).trans (Le.new hd)) _ _ upd_self
  have e3 : Hd t3 = some (.tup [.int hi, .int (hi + (F.r.length : Int))]) := by
    rw [← hHd, ← rowS_len (l := F.r)]
    exact (Le.new hd) _ _ upd_self
  refine for_list (xs := [.ref t1, .ref t2, .ref t3]) (fun i σ' H' => Le Hd H' ∧ (∃ x4 x5 x6, σ' = [some (.ref p), some (.int n), some (.int lo), some (.int hi), x4, x5, x6, none]) ∧ ∀ m, n ≤ m → (i = 0 → m < n) → (i = 1 → m < lo) → (i = 2 → m < hi) → F.mem m = false) ?_ ?_ ?_ ?_
  · exact ⟨.refl, ⟨_, _, _, rfl⟩, fun m h1 h2 => by have := h2 rfl; omega⟩
  · rintro i σ' H' _ ⟨le, _⟩
    exact .of (le _ _ ed)
  · rintro i x σ' H' hx ⟨le, ⟨x4, x5, x6, rfl⟩, hb⟩
    have hw : ∃ (t : Addr) (a e : Int), x = .ref t ∧ Hd t = some (.tup [.int a, .int e]) ∧ -100000000 ≤ a ∧ e ≤ 100000000 ∧ e - a ≤ 16777216 ∧ a ≤ e ∧
        (∀ k, a ≤ k → F.mem k = true → (a ≠ n ∨ k < F.low ∨ F.low ≤ n) → (∀ m, a ≤ m → m < k → (a ≠ n ∨ m < F.low ∨ F.low ≤ n) → F.mem m = false) → IsNext F.mem n (some k)) ∧
        ((∀ m, a ≤ m → m < e → (a ≠ n ∨ m < F.low ∨ F.low ≤ n) → F.mem m = false) → ∀ m, n ≤ m → (i + 1 = 0 → m < n) → (i + 1 = 1 → m < lo) → (i + 1 = 2 → m < hi) → F.mem m = false) := by
      have hz := z.l
      have hzr := z.r
      match i, hx with
      | 0, hx =>
        refine ⟨t1, n, n + F.l.length, (Option.some.inj hx).symm, e1, by omega, by omega, by omega, by omega, ?_, ?_⟩
        · intro k k1 k2 k3 k4
          refine ⟨k1, k2, fun m m1 m2 => k4 m m1 m2 ?_⟩
          rcases k3 with k3 | k3 | k3
          · exact absurd rfl k3
          · exact .inr (.inl (by omega))
          · exact .inr (.inr k3)
        · intro hno m m1 _ m2 _
          have m3 := m2 rfl
          have hlt : n < F.low := by omega
          have elo : lo = F.low := by omega
          cases hm : F.mem m with
          | false => rfl
          | true =>
            have q1 := Int.emod_nonneg (m - n) (show (F.l.length : Int) ≠ 0 by omega)
            have q2 := Int.emod_lt_of_pos (m - n) (show (0 : Int) < (F.l.length : Int) by omega)
            have q3 := Int.mul_ediv_add_emod (m - n) (F.l.length : Int)
            have q4 : 0 ≤ (m - n) / (F.l.length : Int) := Int.ediv_nonneg (by omega) (by omega)
            have q5 := L.dn_low.nat (by omega) ((m - n) / (F.l.length : Int)).toNat m (by omega)
            rw [show ((((m - n) / (F.l.length : Int)).toNat : Nat) : Int) = (m - n) / (F.l.length : Int) by omega, Int.mul_comm] at q5
            have q6 : 0 ≤ (F.l.length : Int) * ((m - n) / (F.l.length : Int)) := Int.mul_nonneg (by omega) q4
            have q7 := hno (m - (F.l.length : Int) * ((m - n) / (F.l.length : Int))) (by omega) (by omega) (.inr (.inl (by omega)))
            rw [q5, hm] at q7
            cases q7
      | 1, hx =>
        refine ⟨t2, lo, hi, (Option.some.inj hx).symm, e2, by omega, by omega, by omega, by omega, ?_, ?_⟩
        · intro k k1 k2 k3 k4
          refine ⟨by omega, k2, fun m m1 m2 => ?_⟩
          by_cases c : m < lo
          · exact hb m m1 (fun h => by omega) (fun _ => c) (fun h => by omega)
          · exact k4 m (by omega) m2 (by omega)
        · intro hno m m1 _ _ m2
          have m3 := m2 rfl
          by_cases c : m < lo
          · exact hb m m1 (fun h => by omega) (fun _ => c) (fun h => by omega)
          · exact hno m (by omega) m3 (by omega)
      | 2, hx =>
        refine ⟨t3, hi, hi + F.r.length, (Option.some.inj hx).symm, e3, by omega, by omega, by omega, by omega, ?_, ?_⟩
        · intro k k1 k2 k3 k4
          refine ⟨by omega, k2, fun m m1 m2 => ?_⟩
          by_cases c : m < hi
          · exact hb m m1 (fun h => by omega) (fun h => by omega) (fun _ => c)
          · exact k4 m (by omega) m2 (by omega)
        · intro hno m m1 _ _ _
          by_cases c : m < hi
          · exact hb m m1 (fun h => by omega) (fun h => by omega) (fun _ => c)
          · cases hm : F.mem m with
            | false => rfl
            | true =>
              obtain ⟨m', q1, q2, q3, q4, q5⟩ := down_to (by omega) (L.up_high.mono hi2) (by omega : hi ≤ m) hm
              have := hno m' q1 q2 (by omega)
              rw [q5] at this
              cases this
      | i + 3, hx => simp at hx
    obtain ⟨t, a, e, rfl, et, w1, w2, w3, w4, wf, wn⟩ := hw
    refine ⟨t, _, rfl, .of (le _ _ et), rfl, ?_⟩
    refine ⟨_, _, rfl, _, _, rfl, rfl, ?_⟩
    have hpL := hp.le (lHd.trans le)
    have hp4 := (lHd.trans le) _ _ hp1
    refine ⟨_, rfl, _, _, _, rfl, hp4, by rfl, _, rfl, _, rfl, p, a, e, _, rfl, hpL, ⟨by omega, by omega, by omega, by omega⟩, w3, ?_⟩
    intro d1 H1 l1 nn1 m1
    refine ⟨d1, rfl, ⟨_, .of m1⟩, fun dd hdd => ?_⟩
    have hp5 := l1 _ _ hp4
    refine lc_pure walk_list hdd ?_ (fun _ le => .of (le _ _ m1)) yat_le (fun i => ((daysIn F.mem a e)[i]?).bind fun m => if (!decide (V.int a = V.int n) || (decide (m < F.low) || decide (F.low ≤ n))) = true then some (V.int m) else none) ?_ ?_
    · have := daysIn_len F.mem a e
      rw [List.length_map]
      exact le_szl _ (by omega)
    · rintro j x H2 H3 hj le2 ⟨rfl, hx⟩ N' hN'
      have hN2 := hN' H3 .refl
      rw [List.getElem?_map] at hx
      obtain ⟨m, hm, rfl⟩ := Option.map_eq_some_iff.mp hx
      rw [hm] at hN2
      refine ⟨rfl, ?_⟩
      have hp6 := le2 _ _ hp5
      have hN3 : N' (if (!decide (V.int a = V.int n) || (decide (m < F.low) || decide (F.low ≤ n))) = true then some (V.int m) else none) H3 := hN2
      refine ⟨_, rfl, _, rfl, rfl, _, rfl, ?_⟩
      refine ite2 (fun c => ?_) (fun c => ?_)
      · rw [c] at hN3
        exact ⟨_, rfl, hN3⟩
      have c1 : (!decide (V.int a = V.int n)) = false := by simpa using c
      rw [c1] at hN3
      refine ⟨_, rfl, _, rfl, _, _, _, _, _, rfl, hp6, D.cl, D.n_low, f_low F, _, _, rfl, rfl, _, rfl, ?_⟩
      refine ite2 (fun c => ?_) (fun c => ?_)
      · have c : decide (m < F.low) = true := c
        rw [c] at hN3
        exact ⟨_, rfl, hN3⟩
      have c2 : decide (m < F.low) = false := by
        have c : ¬ decide (m < F.low) = true := c
        simpa using c
      rw [c2] at hN3
      refine ⟨_, rfl, _, rfl, _, _, _, _, _, rfl, hp6, D.cl, D.n_low, f_low F, _, _, rfl, rfl, _, rfl, ?_⟩
      refine ite2 (fun c => ?_) (fun c => ?_)
      · have c : decide (F.low ≤ n) = true := c
        rw [c] at hN3
        exact ⟨_, rfl, hN3⟩
      · have c3 : decide (F.low ≤ n) = false := by
          have c : ¬ decide (F.low ≤ n) = true := c
          simpa using c
        rw [c3] at hN3
        exact hN3
    · intro H2 le2 e4
      rw [fm_filterI (daysIn F.mem a e) fun m => !decide (V.int a = V.int n) || (decide (m < F.low) || decide (F.low ≤ n))] at e4
      have hcond : ∀ m, (!decide (V.int a = V.int n) || (decide (m < F.low) || decide (F.low ≤ n))) = true ↔ (a ≠ n ∨ m < F.low ∨ F.low ≤ n) := fun m => by
        simp
      have hmem : ∀ m, m ∈ (daysIn F.mem a e).filter (fun m => !decide (V.int a = V.int n) || (decide (m < F.low) || decide (F.low ≤ n))) ↔ a ≤ m ∧ m < e ∧ F.mem m = true ∧ (a ≠ n ∨ m < F.low ∨ F.low ≤ n) := fun m => by
        rw [List.mem_filter, mem_daysIn, hcond, and_assoc, and_assoc]
      have hpw := (daysIn_up F.mem a e).filter fun m => !decide (V.int a = V.int n) || (decide (m < F.low) || decide (F.low ≤ n))
      generalize (daysIn F.mem a e).filter (fun m => !decide (V.int a = V.int n) || (decide (m < F.low) || decide (F.low ≤ n))) = fl at *
      have leA : Le Hd H2 := (le.trans l1).trans le2
      refine ⟨_, rfl, Nat.zero_le _, fun q6 n6 => ?_⟩
      have e5 := (Le.new (o := .lst []) n6) _ _ e4
      refine ⟨dd, q6, _, _, rfl, rfl, .of e5, .of upd_self, .inr rfl, _, rfl, ?_⟩
      refine ite2 (fun c => ?_) (fun c => ?_)
      · cases hfl : fl with
        | nil => rw [hfl] at c; cases c
        | cons k r =>
          rw [hfl] at e5 hpw
          refine ⟨_, rfl, _, _, _, .int k, rfl, rfl, .of e5, atI_zero _ _, ?_⟩
          have hk := (hmem k).mp (by rw [hfl]; exact List.mem_cons_self)
          refine qq (some k) _ ((lHd.trans leA).trans (Le.new n6)) (wf k hk.1 hk.2.2.1 hk.2.2.2 fun m m1 m2 m3 => ?_)
          cases hm : F.mem m with
          | false => rfl
          | true =>
            have := (hmem m).mpr ⟨m1, by omega, hm, m3⟩
            rw [hfl] at this
            rcases List.mem_cons.mp this with rfl | h
            · omega
            · have := (List.pairwise_cons.mp hpw).1 m h
              omega
      · have he : fl = [] := by
          cases h : fl with
          | nil => rfl
          | cons a r => rw [h] at c; exact absurd rfl c
        refine ⟨leA.trans (Le.new n6), ⟨_, _, _, rfl⟩, wn fun m m1 m2 m3 => ?_⟩
        cases hm : F.mem m with
        | false => rfl
        | true =>
          have := (hmem m).mpr ⟨m1, m2, hm, m3⟩
          rw [he] at this
          cases this
  · rintro σ' H' ⟨le, _, hb⟩
    exact ⟨lHd.trans le, fun m m1 => hb m m1 (fun h => by cases h) (fun h => by cases h) (fun h => by cases h)⟩
def sp_last (C : Addr) : Sp := fun vs H Q _ => ∃ (p : Addr) (n : Int) (f : Int → Bool) (c b : Int), vs = [.ref p, .int n] ∧ IsDay C H p f ∧ Ok f c b ∧ b < 1000000 ∧ -10000000 ≤ n ∧ n ≤ 10000000 ∧ ∀ o H', Le H H' → IsNext (fun n => f (-n)) (-n) o → Q (optV (o.map fun d => -d)) H'
theorem q_last {C : Addr} (T : Txt K mg) (D : DSC K mg C) (M : MetOf K C "last_until" "DaySet.last_until" s_DaySet_last_until P_DaySet_last_until) (Q_DaySet_next_from : Met P w K mg base 3 C "next_from" (sp_next C) []) (Q_DaySet___neg__ : Met P w K mg base 6 C "__neg__" (sp_neg C) []) : Met P w K mg base 7 C "last_until" (sp_last C) [] := by
  obtain ⟨g, fd, M, F, B⟩ := M
  refine met0 D.cl M F B sc_DaySet_last_until (fun vs H Q E h => by obtain ⟨_, _, _, _, _, rfl, _⟩ := h; rfl) (fun cdv A outer s H vs Q E hr h => ?_)
  obtain ⟨p, n, f, c, b, rfl, hp, o1, b1, n0, n1, qq⟩ := h
  have nd := sc_DaySet_last_until.nd
  refine ⟨_, (pss_cons (ps_set (i := 2) nd rfl (Or.inl rfl) (pe_mt Q_DaySet_next_from hr (by decide) (pe_un (un_ownNegM Q_DaySet___neg__ hr (by decide)) (pv 0)) (pa_cons (pe_un un_neg (pv 1)) pa_nil)))
      (pss_one (ps_ret (pe_ifExp (pt_cmpR op_isN (pv 2) pe_non (nomark _)) pe_non (pe_un un_neg (pv 2)))))), ?_⟩
  obtain ⟨F, hpF, _⟩ := hp.form
  obtain ⟨dx, _, _, hp1⟩ := id hpF
  refine ⟨_, rfl, _, _, _, rfl, hp1, p, f, rfl, hp, ?_⟩
  intro r H1 l1 d1 r1
  obtain ⟨G, hG, _⟩ := d1.form
  obtain ⟨dy, _, _, hr1⟩ := id hG
  refine ⟨_, _, _, rfl, hr1, by rfl, _, rfl, _, rfl, r, -n, _, c, b + 1, rfl, d1, o1.neg (by omega), by omega, by omega, ?_⟩
  intro o H2 l2 ho
  have := qq o H2 (l1.trans l2) ho
  cases o with
  | none =>
    refine ⟨_, rfl, rfl, _, rfl, ?_⟩
    exact this
  | some d =>
    refine ⟨_, rfl, rfl, _, rfl, ?_⟩
    exact ⟨_, rfl, _, rfl, this⟩
end
end Od
end
section
set_option Elab.async false
set_option linter.all false
set_option maxRecDepth 100000
set_option maxHeartbeats 2000000
set_option autoImplicit false
namespace Od
open PySem PySem.Spec PyProof.Rows L2 C8 Day
abbrev s_least_sums : Stmt := top 33
abbrev N_least_sums : List Str := ["days", "step", "stop", "ways", "found", "open_ones", "least", "value", "rest", "way", "goal"]
abbrev P_least_sums : List Str := ["days", "step"]
theorem sc_least_sums : FnScope N_least_sums P_least_sums (C8.fnScope s_least_sums) := fnScope_by (by decide +kernel)
theorem Tab.drop {kvs : List (Key × V)} {T : Int → Option V} (t : Tab kvs T) (k : Int) : Tab (dropK kvs (.inl k)) fun j => if j = k then none else T j := by
  refine ⟨fun j => ?_, fun e he => ?_, ?_⟩
  · rw [← t.val]
    unfold valV dropK
    rw [List.find?_filter]
    by_cases c : j = k
    · rw [if_pos c]
      subst c
      have : ∀ q : Key × V → Bool, (∀ x, q x = false) → kvs.find? q = none := fun q hq => List.find?_eq_none.mpr fun x _ => by rw [hq x]; exact Bool.false_ne_true
      rw [this _ fun x => ?_]
      · rfl
      · by_cases c : x.1 = Sum.inl j <;> simp [c]
    · rw [if_neg c]
      congr 2
      funext a
      by_cases c2 : a.1 = Sum.inl j
      · have : a.1 ≠ Sum.inl k := fun e => c (by rw [c2] at e; exact Sum.inl.inj e)
        simp [c2, c]
      · simp [c2]
  · have h := List.mem_filter.mp he
    obtain ⟨j, hj, hT⟩ := t.ent e h.1
    refine ⟨j, hj, ?_⟩
    have : e.1 ≠ Sum.inl k := of_decide_eq_true h.2
    rw [if_neg (fun c => this (by rw [hj, c]))]
    exact hT
  · have := t.nd
    exact (List.Sublist.map _ List.filter_sublist).nodup this
theorem TabI.drop {kvs : List (Key × V)} {T : Int → Option Int} (t : TabI kvs T) (k : Int) : TabI (dropK kvs (.inl k)) fun j => if j = k then none else T j :=
  (Tab.drop t k).to fun j => by
    by_cases c : j = k
    · simp [c]
    · simp [c]
theorem LeX.trans {D : Addr} {H H1 H2 : Hp} (a : LeX D H H1) (b : LeX D H1 H2) : LeX D H H2 := fun x o c h => b x o c (a x o c h)
theorem TabI.get {kvs : List (Key × V)} {T : Int → Option Int} (t : TabI kvs T) (k : Int) : valV kvs (.inl k) = (T k).map V.int := t.val k
section
variable {P : Program} {w : World} {K : PySem.W.Frag} {mg : Str → Option Value} {base : Heap}
/-- how far the least sums can lie -/
def farS (step b c : Int) : Int := b + step + step * c
def sp_least (C : Addr) : Sp := fun vs H Q _ => ∃ (p : Addr) (step : Int) (f : Int → Bool) (c b : Int), vs = [.ref p, .int step] ∧ IsDay C H p f ∧ Ok f c b ∧ 0 < step ∧ step ≤ 1000 ∧ f step = true ∧ (∀ m, m < 0 → f m = false) ∧ (∀ m, 0 < m → m < step → f m = false) ∧ step * farS step b c ≤ 900000 ∧ farS step b c ≤ 900000 ∧
  ∀ d H' kvs Tq, Le H H' → H d = none → H' d = some (.dK kvs) → TabI kvs Tq → (∀ k v, Tq k = some v → v % step = k ∧ Star (fun x => f x = true) v ∧ 0 ≤ v ∧ v ≤ step * farS step b c) → (∀ n, Star (fun x => f x = true) n → ∃ v, Tq (n % step) = some v ∧ v ≤ n) → Q (.ref d) H'
theorem c_least {C : Addr} (T : Txt K mg) (D : DSC K mg C) (F : DefOf K mg "least_sums" s_least_sums P_least_sums) (C_multiple_of : Cal P w K mg base 2 "multiple_of" sp_multiple_of []) (Q_DaySet_days_in : Met P w K mg base 2 C "days_in" (sp_days_in C) []) (C_first_of_rests : Cal P w K mg base 1 "first_of_rests" sp_first []) : Cal P w K mg base 3 "least_sums" (sp_least C) [] := by
  obtain ⟨f, fd, F, B⟩ := F
  refine cal0 F B .nil sc_least_sums (fun vs H Q E h => by obtain ⟨_, _, _, _, _, rfl, _⟩ := h; rfl) (fun cdv A outer s H vs Q E hr h => ?_)
  obtain ⟨p, step, f, c, b, rfl, hp, o1, s0, s1, fs, fneg, fmin, far, far2, qq⟩ := h
  have nd := sc_least_sums.nd
  refine ⟨_, (pss_cons (ps_set (i := 2) nd rfl (Or.inl rfl) (pe_op op_add (pe_callB (call_max2 rfl) (by rfl) T.b_max (by decide +kernel) (pa_cons (pe_callTy call_int1 (by rfl) T.b_int (by decide +kernel) (pa_cons (pe_fld (pv 0) rfl) pa_nil)) (pa_cons (pe_callTy call_int1 (by rfl) T.b_int (by decide +kernel) (pa_cons (pv 1) pa_nil)) pa_nil))) (pe_c C_multiple_of hr (by decide) rfl (pa_cons (pv 1) (pa_cons (pe_callB call_len_str (by rfl) T.b_len (by decide +kernel) (pa_cons (pe_fld (pv 0) rfl) pa_nil)) pa_nil)))))
      (pss_cons (ps_set (i := 3) nd rfl (Or.inl rfl) (pe_c C_first_of_rests hr (by decide) rfl (pa_cons (pe_mt Q_DaySet_days_in hr (by decide) (pv 0) (pa_cons (pv 1) (pa_cons (pv 2) pa_nil))) (pa_cons (pv 1) pa_nil))))
      (pss_cons (ps_set (i := 4) nd rfl (Or.inl rfl) pe_dnewK)
      (pss_cons (ps_set (i := 5) nd rfl (Or.inl rfl) (pe_disp (pps_cons pe_int pe_int pps_nil) (by rfl) (by rfl) (by simp) (by decide)))
      (C8.pss_cut (ps_while PassesOwn.never (pt_cmpR (op_neDE hr.units0) (pv 5) pe_dnewK (nomark _)) (pss_cons (ps_set (i := 6) nd rfl (Or.inl rfl) (pe_callB (cr_min rfl) (by rfl) T.b_min (by decide +kernel) (pa_cons (pe_lock (pe_lc (own := [("value", 7)]) (g := gName 7) (by rfl) nd (pi_values (pv 5)) (blkOk_by (own := [("value", 7)]) (N := N_least_sums) (sc := C8.fnScope s_least_sums) (by decide +kernel)) (fun _ _ _ _ _ => pg_name (i := 7) nd rfl (Or.inl rfl)) (fun _ _ _ _ _ => pts_nil) (fun _ _ _ _ _ => (pe_callTy call_int1 (by rfl) T.b_int (by decide +kernel) (pa_cons (pv 7) pa_nil))))) pa_nil)))
      (pss_cons (ps_set (i := 8) nd rfl (Or.inl rfl) (pe_op op_mod (pv 6) (pv 1)))
      (pss_cons (ps_dput (Room.u1 hr) (pv 4) (pv 8) (pv 6) rfl)
      (pss_cons (ps_ddel (pv 5) (pv 8))
      (pss_one (ps_lock (ps_for PassesOwn.never rfl (pi_values (pv 3)) (pg_name (i := 9) nd rfl (Or.inl rfl)) (pss_cons (ps_set (i := 10) nd rfl (Or.inl rfl) (pe_op op_mod (pe_op op_add (pv 6) (pv 9)) (pv 1)))
      (pss_one (ps_if (PW.pt (pw_and (pt_cmp (pc_dnotin (Room.u1 hr) (pv 10) (pv 4))) (pw_and1 (pt_cmpR op_lt (pe_op op_add (pv 6) (pv 9)) (pe_dget2 (Room.u1 hr) (pv 5) (pv 10) (pe_op op_add (pe_op op_add (pv 6) (pv 9)) pe_int) ⟨by rfl, by rfl, by rfl, by rfl⟩) (nomark _))))) (pss_one (ps_dput (Room.u1 hr) (pv 5) (pv 10) (pe_op op_add (pv 6) (pv 9)) rfl)) pss_nil)))))))))))
      (pss_one (ps_ret (pv 4)))))))), ?_⟩
  obtain ⟨F, hpF, rfl⟩ := hp.form
  obtain ⟨dx, L, z, hp1⟩ := id hpF
  obtain ⟨f1, f2, f3, f4, f5, f6, f7⟩ := o1.sizes L
  have c0 := o1.c0; have c1 := o1.c1; have b0 := o1.b0; have b1 := o1.b1
  have lh := F.low_high
  have lFr := prim_len L.r0
  have hz := z.r
  refine ⟨_, rfl, _, _, _, _, _, rfl, hp1, D.cl, D.n_high, f_high F, .inl ⟨_, rfl, _, rfl, .inl ⟨_, rfl, ?_⟩⟩⟩
  refine ⟨_, _, rfl, _, rfl, _, rfl, _, _, _, _, _, rfl, hp1, D.cl, D.n_right, f_right F, _, rfl, szl z.r, ?_⟩
  rw [rowS_len]
  refine ⟨step.toNat, F.r.length, by rw [show ((step.toNat : Nat) : Int) = step by omega]; rfl, by omega, lFr, by omega, by omega, ?_⟩
  have hL : ∃ Lc : Int, ((Nat.lcm step.toNat F.r.length : Nat) : Int) = Lc ∧ 0 < Lc ∧ Lc % step = 0 ∧ Lc % (F.r.length : Int) = 0 ∧ Lc ≤ step * c := by
    refine ⟨_, rfl, ?_, ?_, ?_, ?_⟩
    · have := Nat.lcm_pos (show 0 < step.toNat by omega) lFr
      omega
    · have := mod_of_dvd (Nat.dvd_lcm_left step.toNat F.r.length)
      rwa [show ((step.toNat : Nat) : Int) = step by omega] at this
    · exact mod_of_dvd (Nat.dvd_lcm_right step.toNat F.r.length)
    · have h1 : Nat.lcm step.toNat F.r.length ≤ step.toNat * F.r.length := Nat.le_of_dvd (Nat.mul_pos (by omega) lFr) (Nat.lcm_dvd (Nat.dvd_mul_right _ _) (Nat.dvd_mul_left _ _))
      have h2 : ((step.toNat * F.r.length : Nat) : Int) ≤ step * c := by
        rw [Int.natCast_mul, show ((step.toNat : Nat) : Int) = step by omega]
        exact Int.mul_le_mul_of_nonneg_left f5 (by omega)
      omega
  obtain ⟨Lc, eL, L0, L1, L2', L3⟩ := hL
  rw [eL]
  have hst : ∃ top, (if step > F.high then step else F.high) = top ∧ F.high ≤ top ∧ step ≤ top ∧ top ≤ b + step := ⟨_, rfl, by split <;> omega, by split <;> omega, by split <;> omega⟩
  obtain ⟨top, etop, t1, t2, t3⟩ := hst
  refine ⟨_, _, rfl, rfl, ?_⟩
  rw [etop]
  have hstop : top + Lc ≤ farS step b c := by unfold farS; omega
  refine ⟨_, rfl, _, _, _, rfl, hp1, by rfl, _, rfl, _, rfl, p, step, top + Lc, _, rfl, hp, ⟨by omega, by omega, by omega, by omega⟩, by omega, ?_⟩
  intro d1 H1 l1 n1 e1
  refine ⟨_, rfl, d1, _, step, rfl, e1, s0, by omega, ?_⟩
  intro dw H2 kw Tw l2 n2 ew tw fw
  -- the ways lead everywhere
  have toway : ∀ d, F.mem d = true → d = 0 ∨ ∃ y, (∃ k, Tw k = some y) ∧ y ≤ d ∧ y % step = d % step := fun d hd => by
    by_cases d0 : d < 0
    · rw [fneg d d0] at hd; cases hd
    by_cases d1 : d = 0
    · exact .inl d1
    by_cases d2 : d < step
    · rw [fmin d (by omega) d2] at hd; cases hd
    right
    have : ∃ d', step ≤ d' ∧ d' < top + Lc ∧ d' ≤ d ∧ d' % step = d % step ∧ F.mem d' = true := by
      by_cases d3 : d < top + Lc
      · exact ⟨d, by omega, d3, Int.le_refl _, rfl, hd⟩
      · obtain ⟨d', q1, q2, q3, q4, q5⟩ := down_to L0 ((up_size L L0 L2').mono t1) (a := d) (by omega) hd
        refine ⟨d', by omega, q2, q3, ?_, q5⟩
        rw [← Int.emod_emod_of_dvd d' (Int.dvd_of_emod_eq_zero L1), q4, Int.emod_emod_of_dvd d (Int.dvd_of_emod_eq_zero L1)]
    obtain ⟨d', q1, q2, q3, q4, q5⟩ := this
    obtain ⟨y, hy, hle⟩ := fw.le d' (mem_daysIn.mpr ⟨q1, q2, q5⟩)
    exact ⟨y, ⟨_, hy⟩, by omega, by rw [(fw.is _ y hy).2, q4]⟩
  have wayIs : ∀ y, (∃ k, Tw k = some y) → step ≤ y ∧ y ≤ farS step b c ∧ F.mem y = true := fun y ⟨k, hk⟩ => by
    have := mem_daysIn.mp (fw.is k y hk).1
    exact ⟨this.1, by omega, this.2.2⟩
  -- found, open_ones
  intro df n3
  have l3 : Le H2 (upd H2 df (.dK [])) := Le.new n3
  intro do0 n4
  refine ⟨upd_self, [(.inl 0, .int 0)], rfl, by decide, ?_⟩
  have ne34 : df ≠ do0 := fun e => by rw [← e, upd_self] at n4; cases n4
  have n4' : H2 do0 = none := by rw [upd_ne ne34.symm] at n4; exact n4
  have ndw : dw ≠ df := fun e => by rw [e, n3] at ew; cases ew
  have ndw2 : dw ≠ do0 := fun e => by rw [e, n4'] at ew; cases ew
  have lH2 : Le H H2 := l1.trans l2
  have hfd : H df = none := lH2.none n3
  have hod : H do0 = none := lH2.none n4'
  have farpos : 0 ≤ farS step b c := by omega
  -- what holds at the head of the loop
  refine ⟨fun σ' H' => ∃ kf Tf x1 x2 x3 x4 x5, σ' = [some (.ref p), some (.int step), some (.int (top + Lc)), some (.ref dw), some (.ref df), some (.ref do0), x1, x2, x3, x4, x5] ∧ Le H2 H' ∧ H' df = some (.dK kf) ∧ TabI kf Tf ∧
    (∀ k v, Tf k = some v → v % step = k ∧ Star (fun y => ∃ k, Tw k = some y) v ∧ 0 ≤ v ∧ v ≤ step * farS step b c) ∧ ∀ w, Star (fun y => ∃ k, Tw k = some y) w → ∃ u, Tf (w % step) = some u ∧ u ≤ w, ?_, ?_⟩
  rotate_left
  · rintro σ' H' ⟨kf, Tf, x1, x2, x3, x4, x5, rfl, le, ef, tf, hf1, hf2⟩
    refine ⟨_, rfl, qq df H' kf Tf (lH2.trans le) hfd ef tf ?_ ?_⟩
    · intro k v hk
      obtain ⟨g1, g2, g3, g4⟩ := hf1 k v hk
      exact ⟨g1, g2.mono fun y hy => (wayIs y hy).2.2, g3, g4⟩
    · intro n hn
      have : ∃ w, Star (fun y => ∃ k, Tw k = some y) w ∧ w ≤ n ∧ w % step = n % step := by
        induction hn with
        | zero => exact ⟨0, .zero, Int.le_refl _, rfl⟩
        | @add m d _ hd ih =>
          obtain ⟨w, w1, w2, w3⟩ := ih
          rcases toway d hd with rfl | ⟨y, y1, y2, y3⟩
          · exact ⟨w, w1, by omega, by rw [Int.add_zero]; exact w3⟩
          · exact ⟨w + y, w1.add y1, by omega, by rw [Int.add_emod, w3, y3, ← Int.add_emod]⟩
      obtain ⟨w, w1, w2, w3⟩ := this
      obtain ⟨u, hu, hle⟩ := hf2 w w1
      rw [w3] at hu
      exact ⟨u, hu, by omega⟩
  have pos : ∀ y, (∃ k, Tw k = some y) → 0 ≤ y := fun y hy => by have := (wayIs y hy).1; omega
  have klen : ∀ (kk : List (Key × V)) (TT : Int → Option Int), TabI kk TT → (∀ k v, TT k = some v → v % step = k) → kk.length ≤ step.toNat := fun kk TT ht hb => Tab.len (lo := 0) ht fun k v hk => by
    obtain ⟨m, hm, rfl⟩ := Option.map_eq_some_iff.mp hk
    have := hb k m hm
    have h1 := Int.emod_nonneg m (show step ≠ 0 by omega)
    have h2 := Int.emod_lt_of_pos m s0
    omega
  have sz : sizeLine = 16777216 := sizeLine_eq
  refine ⟨fun n σ' H' => ∃ kf ko Tf To x1 x2 x3 x4 x5, n + kf.length = step.toNat + 1 ∧ σ' = [some (.ref p), some (.int step), some (.int (top + Lc)), some (.ref dw), some (.ref df), some (.ref do0), x1, x2, x3, x4, x5] ∧ Le H2 H' ∧ H' df = some (.dK kf) ∧ H' do0 = some (.dK ko) ∧ TabI kf Tf ∧ TabI ko To ∧ Dj (fun y => ∃ k, Tw k = some y) step Tf To ∧
    (∀ k v, Tf k = some v → 0 ≤ v ∧ v ≤ kf.length * farS step b c) ∧ (∀ k v, To k = some v → 0 ≤ v ∧ v ≤ kf.length * farS step b c), ⟨step.toNat + 1, [], [(.inl 0, .int 0)], fun _ => none, fun k => if k = 0 then some 0 else none, none, none, none, none, none, rfl, rfl, ?_, ?_, ?_, Tab.nil, ?_, Dj.start _ _, fun k v h => (by cases h), ?_⟩, ?_⟩
  · exact ((l3.upd n4').upd n4')
  · rw [upd_ne ne34, upd_ne ne34, upd_self]
  · rw [upd_self]
    rfl
  · exact TabI.put (kvs := []) (T := fun _ => none) Tab.nil 0 0
  · intro k v hk
    by_cases c : k = 0
    · simp only [if_pos c] at hk
      cases hk
      exact ⟨Int.le_refl _, by simp⟩
    · simp only [if_neg c] at hk
      cases hk
  rintro n σ' H' ⟨kf, ko, Tf, To, x1, x2, x3, x4, x5, hn, rfl, le, ef, eo, tf, to', dj, bf, bo⟩
  refine ⟨_, rfl, fun d6 n6 => ?_⟩
  have eo6 : upd H' d6 (.dK []) do0 = some (.dK ko) := Le.new n6 _ _ eo
  have ef6 : upd H' d6 (.dK []) df = some (.dK kf) := Le.new n6 _ _ ef
  have le6 : Le H2 (upd H' d6 (.dK [])) := le.trans (Le.new n6)
  refine ⟨do0, d6, ko, rfl, rfl, eo6, upd_self, _, rfl, ?_⟩
  generalize upd H' d6 (.dK []) = H6 at *
  refine ite2 (fun cc => ?_) (fun cc => ?_)
  rotate_left
  · have hko : ko = [] := by
      cases h : ko with
      | nil => rfl
      | cons a r => rw [h] at cc; exact absurd rfl cc
    subst hko
    have hno : ∀ k, To k = none := fun k => by
      have := to'.get k
      cases h : To k with
      | none => rfl
      | some v => rw [h] at this; cases this
    have hlk := klen kf Tf tf fun k v hk => (dj.f k v hk).1
    refine ⟨kf, Tf, _, _, _, _, _, rfl, le6, ef6, tf, fun k v hk => ?_, fun w hw => dj.done pos hno hw⟩
    obtain ⟨g1, g2⟩ := bf k v hk
    refine ⟨(dj.f k v hk).1, (dj.f k v hk).2.1, g1, Int.le_trans g2 ?_⟩
    exact Int.mul_le_mul_of_nonneg_right (by omega) farpos
  have hne : ko ≠ [] := fun e => by rw [e] at cc; cases cc
  obtain ⟨xs, hxs, mxs, lxs⟩ := to'.vals
  have lko := klen ko To to' fun k v hk => (dj.o k v hk).1
  refine ⟨_, fun _ _ h => h, ?_⟩
  -- the least
  refine ⟨do0, .dK ko, eo6, trivial, fun od => ?_⟩
  have eL : upd H6 do0 (.frz od (.dK ko)) do0 = some (.frz od (.dK ko)) := upd_self
  refine ⟨_, rfl, do0, od, ko, rfl, eL, fun dm hdm => ?_⟩
  refine lc_pure walk_values hdm (by omega) (fun H le => le _ _ eL) (fun _ _ _ _ h => by rw [h.1]; exact .refl) (fun i => (xs.map V.int)[i]?) ?_ ?_
  · rintro i x Ha Hb hi lea ⟨rfl, k, hx⟩ N hN
    have := hN Hb .refl
    have hx2 : (xs.map V.int)[i]? = some x := by rw [← hxs, List.getElem?_map, hx]; rfl
    rw [hx2] at this
    rw [List.getElem?_map] at hx2
    obtain ⟨m, hm, rfl⟩ := Option.map_eq_some_iff.mp hx2
    exact ⟨rfl, _, rfl, .inl ⟨m, rfl, this⟩⟩
  intro H7 le7 e7
  have eL7 := le7 _ _ eL
  refine ⟨eL7, ?_⟩
  have l67 : Le H6 (upd H7 do0 (.dK ko)) := Le.unlock eo6 le7
  have ndm : dm ≠ do0 := fun c => by rw [c, eL] at hdm; cases hdm
  have e8 : upd H7 do0 (.dK ko) dm = some (.lst (xs.map V.int)) := by
    rw [upd_ne ndm, e7]
    have := fm_get (xs.map V.int)
    rw [List.length_map, lxs] at this
    rw [this]
  have eo8 := l67 _ _ eo6
  have ef8 := l67 _ _ ef6
  have le8 := le6.trans l67
  generalize upd H7 do0 (.dK ko) = H8 at *
  refine ⟨dm, xs, rfl, .of e8, ?_, ?_⟩
  · rw [lxs]
    exact List.length_pos_iff.mpr hne
  intro least hm hmin
  obtain ⟨rest0, hrest0⟩ := (mxs least).mp hm
  have hmin2 : ∀ k v, To k = some v → least ≤ v := fun k v hk => hmin v ((mxs v).mpr ⟨k, hk⟩)
  have ho := dj.o rest0 least hrest0
  have er : least % step = rest0 := ho.1
  have dk := dj.pick pos hrest0 hmin2
  have bl := bo rest0 least hrest0
  subst er
  refine ⟨_, rfl, _, rfl, _, _, rfl, rfl, s0, ?_⟩
  have lkf := klen kf Tf tf fun k v hk => (dj.f k v hk).1
  refine ⟨_, rfl, _, rfl, _, rfl, _, _, rfl, .k (k := .inl (least % step)) ef8 (by omega), ?_⟩
  have eo9 : upd H8 df (.dK (putK kf (.inl (least % step)) (.int least))) do0 = some (.dK ko) := by rw [upd_ne ne34.symm]; exact eo8
  refine ⟨_, rfl, _, rfl, do0, ko, .inl (least % step), rfl, eo9, rfl, by rw [to'.get, hrest0]; rfl, ?_⟩
  have tf1 := tf.put (least % step) least
  have to1 := to'.drop (least % step)
  have hput : (putK kf (.inl (least % step)) (.int least)).length = kf.length + 1 := by
    rw [putK_new _ (by rw [tf.get, ho.2.2]; rfl), List.length_append]
    rfl
  generalize hkf : putK kf (.inl (least % step)) (.int least) = kf1 at *
  generalize hko : dropK ko (.inl (least % step)) = ko1 at *
  have ef10 : upd (upd H8 df (.dK kf1)) do0 (.dK ko1) df = some (.dK kf1) := by rw [upd_ne ne34, upd_self]
  have eo10 : upd (upd H8 df (.dK kf1)) do0 (.dK ko1) do0 = some (.dK ko1) := upd_self
  have le10 : Le H2 (upd (upd H8 df (.dK kf1)) do0 (.dK ko1)) := ((le8.upd n3).upd n4')
  generalize upd (upd H8 df (.dK kf1)) do0 (.dK ko1) = H10 at *
  have ew10 := le10 _ _ ew
  obtain ⟨ys, hys, mys, lys⟩ := tw.vals
  -- the ways
  refine ⟨dw, .dK kw, ew10, trivial, fun ow => ?_⟩
  refine ⟨_, rfl, dw, ow, kw, rfl, upd_self, ?_⟩
  have far1 : ((kf.length + 1 : Nat) : Int) * farS step b c = kf.length * farS step b c + farS step b c := by rw [Int.natCast_add, Int.add_mul]; simp
  refine for_it walk_values (fun i σ' H' => ∃ ko2 To2 y7 y9 y10, σ' = [some (.ref p), some (.int step), some (.int (top + Lc)), some (.ref dw), some (.ref df), some (.ref do0), some (.int least), y7, some (.int (least % step)), y9, y10] ∧ LeX dw H2 H' ∧ H' dw = some (.frz ow (.dK kw)) ∧ H' df = some (.dK kf1) ∧ H' do0 = some (.dK ko2) ∧ TabI ko2 To2 ∧
    Dk (fun y => ∃ k, Tw k = some y) (fun y => y ∈ ys.take i) step (least % step) least (fun j => if j = (least % step) then some least else Tf j) To2 ∧ ∀ k v, To2 k = some v → 0 ≤ v ∧ v ≤ ((kf.length + 1 : Nat) : Int) * farS step b c) ?_ ?_ ?_ ?_
  · refine ⟨ko1, _, _, _, _, rfl, le10.x.trans Le.lock, upd_self, by rw [upd_ne ndw.symm]; exact ef10, by rw [upd_ne ndw2.symm]; exact eo10, to1, dk.to fun y hy => (by simp at hy), fun k v hk => ?_⟩
    by_cases c : k = (least % step)
    · simp only [if_pos c] at hk
      cases hk
    · simp only [if_neg c] at hk
      have := bo k v hk
      rw [far1]
      exact ⟨this.1, by omega⟩
  · rintro i σ' H' _ ⟨ko2, To2, y7, y9, y10, rfl, _, ew2, _⟩
    exact ew2
  · rintro i x σ' Ha Hb hi ⟨ko2, To2, y7, y9, y10, rfl, lx, ew2, ef2, eo2, to2, dk2, b2⟩ ⟨rfl, kx, hx⟩
    have hx2 : (ys.map V.int)[i]? = some x := by rw [← hys, List.getElem?_map, hx]; rfl
    rw [List.getElem?_map] at hx2
    obtain ⟨y, hy, rfl⟩ := Option.map_eq_some_iff.mp hx2
    have hyw : ∃ k, Tw k = some y := (mys y).mp (List.mem_of_getElem? hy)
    have wy := wayIs y hyw
    have htk : ∀ z, z ∈ ys.take (i + 1) → z ∈ ys.take i ∨ z = y := fun z hz => by
      rw [List.take_add_one, hy, List.mem_append] at hz
      simpa using hz
    refine ⟨_, rfl, _, rfl, _, _, rfl, rfl, _, rfl, _, _, rfl, rfl, s0, ?_⟩
    refine ⟨_, rfl, _, rfl, _, _, rfl, .k (k := .inl ((least + y) % step)) ef2, _, rfl, ?_⟩
    rw [tf1.get]
    refine ite2 (fun c => ?_) (fun c => ?_)
    rotate_left
    · -- found before
      have : ∃ u, (if (least + y) % step = (least % step) then some least else Tf ((least + y) % step)) = some u := by
        cases h : (if (least + y) % step = (least % step) then some least else Tf ((least + y) % step)) with
        | some u => exact ⟨u, rfl⟩
        | none => rw [h] at c; exact absurd rfl c
      exact ⟨ko2, To2, _, _, _, rfl, lx, ew2, ef2, eo2, to2, (dk2.skip (.inl this)).to htk, b2⟩
    have hnone : (if (least + y) % step = (least % step) then some least else Tf ((least + y) % step)) = none := by
      cases h : (if (least + y) % step = (least % step) then some least else Tf ((least + y) % step)) with
      | none => rfl
      | some u => rw [h] at c; cases c
    refine ⟨_, rfl, _, rfl, _, _, rfl, rfl, _, rfl, _, rfl, .inl ⟨ko2, .inl eo2⟩, _, rfl, _, rfl, _, rfl, _, _, rfl, rfl, _, _, rfl, rfl, _, .k (k := .inl ((least + y) % step)) eo2, ?_⟩
    rw [to2.get]
    have ex : ∃ z : Int, ((To2 ((least + y) % step)).map V.int).getD (.int (least + y + 1)) = .int z ∧ ((∃ u, To2 ((least + y) % step) = some u ∧ z = u) ∨ (To2 ((least + y) % step) = none ∧ z = least + y + 1)) := by
      cases h : To2 ((least + y) % step) with
      | none => exact ⟨_, rfl, .inr ⟨rfl, rfl⟩⟩
      | some u => exact ⟨u, rfl, .inl ⟨u, rfl, rfl⟩⟩
    obtain ⟨z, hz, kz⟩ := ex
    refine ⟨_, _, rfl, hz, _, rfl, ?_⟩
    refine ite2 (fun c2 => ?_) (fun c2 => ?_)
    · have hlt : least + y < z := of_decide_eq_true c2
      have lko2 := klen ko2 To2 to2 fun k v hk => (dk2.o k v hk).1
      refine ⟨_, rfl, _, rfl, _, _, rfl, rfl, _, rfl, _, rfl, _, _, rfl, .k (k := .inl ((least + y) % step)) eo2 (by omega), ?_⟩
      refine ⟨_, _, _, _, _, rfl, ?_, ?_, ?_, upd_self, to2.put _ _, (dk2.take hyw hnone fun u hu => ?_).to htk, fun k v hk => ?_⟩
      · exact fun a o ha h => by
          by_cases c : a = do0
          · subst c; rw [n4'] at h; cases h
          · rw [upd_ne c]; exact lx a o ha h
      · rw [upd_ne ndw2]; exact ew2
      · rw [upd_ne ne34]; exact ef2
      · rcases kz with ⟨u', hu', rfl⟩ | ⟨hu', _⟩
        · rw [hu] at hu'; cases hu'; omega
        · rw [hu] at hu'; cases hu'
      · by_cases c : k = (least + y) % step
        · simp only [if_pos c] at hk
          cases hk
          rw [far1]
          omega
        · simp only [if_neg c] at hk
          exact b2 k v hk
    · have hge : z ≤ least + y := by
        have : ¬ least + y < z := fun h => c2 (decide_eq_true h)
        omega
      refine ⟨ko2, To2, _, _, _, rfl, lx, ew2, ef2, eo2, to2, (dk2.skip (.inr ?_)).to htk, b2⟩
      rcases kz with ⟨u', hu', rfl⟩ | ⟨_, rfl⟩
      · exact ⟨z, hu', hge⟩
      · omega
  · rintro σ' H' ⟨ko2, To2, y7, y9, y10, rfl, lx, ew2, ef2, eo2, to2, dk2, b2⟩
    refine ⟨ew2, ?_⟩
    have leN : Le H2 (upd H' dw (.dK kw)) := fun a o h => by
      by_cases c : a = dw
      · subst c; rw [ew] at h; cases h; exact upd_self
      · rw [upd_ne c]; exact lx a o c h
    refine ⟨n - 1, by omega, kf1, ko2, _, To2, _, _, _, _, _, by rw [hput]; omega, rfl, leN, by rw [upd_ne ndw.symm]; exact ef2, by rw [upd_ne ndw2.symm]; exact eo2, tf1, to2, (dk2.to (P' := fun y => ∃ k, Tw k = some y) fun y hy => ?_).all, fun k v hk => ?_, fun k v hk => ?_⟩
    · rw [← lys, List.take_of_length_le (Nat.le_refl _)]
      exact (mys y).mpr hy
    · by_cases c : k = (least % step)
      · simp only [if_pos c] at hk
        cases hk
        rw [hput, far1]
        omega
      · simp only [if_neg c] at hk
        have := bf k v hk
        rw [hput, far1]
        omega
    · rw [hput]
      exact b2 k v hk
end
end Od
end
section
set_option Elab.async false
set_option linter.all false
set_option maxRecDepth 100000
set_option maxHeartbeats 2000000
set_option autoImplicit false
namespace Od
open PySem PySem.Spec PyProof.Rows L2 C8 Day
abbrev s_DaySet_of : Stmt := inClass (top 24) 3
abbrev N_DaySet_of : List Str := ["cls", "days", "low", "day", "high", "known"]
abbrev P_DaySet_of : List Str := ["cls", "days"]
theorem sc_DaySet_of : FnScope N_DaySet_of P_DaySet_of (C8.fnScope s_DaySet_of) := fnScope_by (by decide +kernel)
theorem mem_of {lo : Int} {R : List Bool} {n : Int} : (Frm.mk [false] lo R [false]).mem n = if lo ≤ n ∧ n < lo + R.length then R.getD (n - lo).toNat false else false := by
  have c1 : ∀ z, cyc [false] z = false := fun z => by unfold cyc; show [false].getD (z % (1 : Int)).toNat false = false; rw [Int.emod_one]; rfl
  have hh : (Frm.mk [false] lo R [false]).high = lo + R.length := rfl
  by_cases h1 : lo + (R.length : Int) ≤ n
  · rw [Frm.mem_up _ (by rw [hh]; exact h1), if_neg (by omega)]
    exact c1 _
  · by_cases h2 : n < lo
    · rw [Frm.mem_dn _ h2, if_neg (by omega)]
      exact c1 _
    · rw [Frm.mem_mid _ (by show lo ≤ n; omega) (by rw [hh]; omega), if_pos (by omega)]
section
variable {P : Program} {w : World} {K : PySem.W.Frag} {mg : Str → Option Value} {base : Heap}
def sp_goes (C : Addr) (side : Frm → List Bool) : Sp := fun vs H Q _ => ∃ (p : Addr) (F : Frm), vs = [.ref p] ∧ IsF C H p F ∧ ∀ e, (e = true ↔ true ∈ side F) → Q (.bl e) H
theorem q_goes_up {C : Addr} (T : Txt K mg) (D : DSC K mg C) (M : MetOf K C "goes_up" "DaySet.goes_up" s_DaySet_goes_up P_DaySet_goes_up) : Met P w K mg base 1 C "goes_up" (sp_goes C Frm.r) [] := by
  obtain ⟨g, fd, M, F, B⟩ := M
  refine met0 D.cl M F B sc_DaySet_goes_up (fun vs H Q E h => by obtain ⟨_, _, rfl, _⟩ := h; rfl) (fun cdv A outer s H vs Q E hr h => ?_)
  obtain ⟨p, F, rfl, ⟨dx, L, z, hp1⟩, qq⟩ := h
  have nd := sc_DaySet_goes_up.nd
  refine ⟨_, (pss_one (ps_ret (pe_cmpR op_in_sign pe_str (pe_fld (pv 0) rfl) (by rfl)))), ?_⟩
  refine ⟨_, rfl, _, _, _, _, _, rfl, hp1, D.cl, D.n_right, f_right F, 49, _, rfl, rfl, qq _ ?_⟩
  rw [rowS_tl, decide_eq_true_iff]
  exact any_mem
theorem q_goes_down {C : Addr} (T : Txt K mg) (D : DSC K mg C) (M : MetOf K C "goes_down" "DaySet.goes_down" s_DaySet_goes_down P_DaySet_goes_down) : Met P w K mg base 1 C "goes_down" (sp_goes C Frm.l) [] := by
  obtain ⟨g, fd, M, F, B⟩ := M
  refine met0 D.cl M F B sc_DaySet_goes_down (fun vs H Q E h => by obtain ⟨_, _, rfl, _⟩ := h; rfl) (fun cdv A outer s H vs Q E hr h => ?_)
  obtain ⟨p, F, rfl, ⟨dx, L, z, hp1⟩, qq⟩ := h
  have nd := sc_DaySet_goes_down.nd
  refine ⟨_, (pss_one (ps_ret (pe_cmpR op_in_sign pe_str (pe_fld (pv 0) rfl) (by rfl)))), ?_⟩
  refine ⟨_, rfl, _, _, _, _, _, rfl, hp1, D.cl, D.n_left, f_left F, 49, _, rfl, rfl, qq _ ?_⟩
  rw [rowS_tl, decide_eq_true_iff]
  exact any_mem
/-! ### of -/
def sp_of (C : Addr) : Sp := fun vs H Q _ => ∃ (p : Addr) (ds : List Int), vs = [.ref C, .ref p] ∧ H p = some (.lst (ds.map V.int)) ∧ ds.length ≤ 100000 ∧ (∀ d ∈ ds, -1000000 ≤ d ∧ d ≤ 1000000) ∧ ∀ r H', Le H H' → IsDay C H' r (fun n => decide (n ∈ ds)) → H r = none → Q (.ref r) H'
theorem q_of {C : Addr} (T : Txt K mg) (D : DSC K mg C) (M : ClmOf K C "of" "DaySet.of" s_DaySet_of P_DaySet_of) (M_DaySet : Mak P w K mg base 4 "DaySet" C (sp_init C) []) : CMt P w K mg base 6 C "of" (sp_of C) := by
  obtain ⟨mc, pp, g, fd, r, cm, F, B⟩ := M
  refine cmt0 r cm F B sc_DaySet_of (fun vs H Q E h => by obtain ⟨_, _, rfl, _⟩ := h; rfl) (fun cdv A outer s H vs Q E hr h => ?_)
  obtain ⟨p, ds, rfl, hp, hlen, hb, qq⟩ := h
  have nd := sc_DaySet_of.nd
  refine ⟨_, (pss_cons (ps_if (pt_cmpR (op_eqE hr.units) (pe_callTy call_list_of (by rfl) T.b_list (by decide +kernel) (pa_cons (pv 1) pa_nil)) (pe_lst pa_nil) (nomark _)) (pss_one (ps_ret (pe_mk M_DaySet hr (by decide) rfl (pa_cons pe_str (pa_cons pe_int (pa_cons pe_str (pa_cons pe_str pa_nil))))))) pss_nil)
      (pss_cons (ps_set (i := 2) nd rfl (Or.inl rfl) (pe_callB (cr_min rfl) (by rfl) T.b_min (by decide +kernel) (pa_cons (pe_lc (own := [("day", 3)]) (g := gName 3) (by rfl) nd (pi_list (pv 1)) (blkOk_by (own := [("day", 3)]) (N := N_DaySet_of) (sc := C8.fnScope s_DaySet_of) (by decide +kernel)) (fun _ _ _ _ _ => pg_name (i := 3) nd rfl (Or.inl rfl)) (fun _ _ _ _ _ => pts_nil) (fun _ _ _ _ _ => (pe_callTy call_int1 (by rfl) T.b_int (by decide +kernel) (pa_cons (pv 3) pa_nil)))) pa_nil)))
      (pss_cons (ps_set (i := 4) nd rfl (Or.inl rfl) (pe_op op_add (pe_callB (cr_max rfl) (by rfl) T.b_max (by decide +kernel) (pa_cons (pe_lc (own := [("day", 3)]) (g := gName 3) (by rfl) nd (pi_list (pv 1)) (blkOk_by (own := [("day", 3)]) (N := N_DaySet_of) (sc := C8.fnScope s_DaySet_of) (by decide +kernel)) (fun _ _ _ _ _ => pg_name (i := 3) nd rfl (Or.inl rfl)) (fun _ _ _ _ _ => pts_nil) (fun _ _ _ _ _ => (pe_callTy call_int1 (by rfl) T.b_int (by decide +kernel) (pa_cons (pv 3) pa_nil)))) pa_nil)) pe_int))
      (pss_cons (ps_set (i := 5) nd rfl (Or.inr rfl) (pe_dc (own := [("day", 3)]) (g := gName 3) (by rfl) nd (pi_list (pv 1)) (blkOk_by (own := [("day", 3)]) (N := N_DaySet_of) (sc := C8.fnScope s_DaySet_of) (by decide +kernel)) (fun _ _ _ _ _ => pg_name (i := 3) nd rfl (Or.inl rfl)) (fun _ _ _ _ _ => pts_nil) (fun _ _ _ _ _ => (pv 3)) (fun _ _ _ _ _ => pe_bl)))
      (pss_one (ps_ret (pe_mk M_DaySet hr (by decide) rfl (pa_cons pe_str (pa_cons (pv 2) (pa_cons (pe_join pe_str (pe_lc (own := [("day", 3)]) (g := gName 3) (by rfl) nd (pi_range2 (by rfl) T.b_range (pa_cons (pv 2) (pa_cons (pv 4) pa_nil))) (blkOk_by (own := [("day", 3)]) (N := N_DaySet_of) (sc := C8.fnScope s_DaySet_of) (by decide +kernel)) (fun _ _ _ _ _ => pg_name (i := 3) nd rfl (Or.inl rfl)) (fun _ _ _ _ _ => pts_nil) (fun _ _ _ _ _ => (pe_callTy call_str_int (by rfl) T.b_str (by decide +kernel) (pa_cons (pe_callTy call_int1 (by rfl) T.b_int (by decide +kernel) (pa_cons (pe_cmp (pc_din (Room.u1 hr) (pv 3) (pv 5))) pa_nil)) pa_nil))))) (pa_cons pe_str pa_nil))))))))))), ?_⟩
  refine ⟨_, rfl, p, _, rfl, .inl (.of hp), fun q1 n1 => ?_⟩
  refine ⟨le_szl 0 (by decide), fun q2 n2 => ?_⟩
  have e1 : upd (upd H q1 (.lst (ds.map V.int))) q2 (.lst []) q1 = some (.lst (ds.map V.int)) := (Le.new n2) _ _ upd_self
  have l0 : Le H (upd (upd H q1 (.lst (ds.map V.int))) q2 (.lst [])) := (Le.new n1).trans (Le.new n2)
  refine ⟨q1, q2, _, _, rfl, rfl, .of e1, .of upd_self, .inr rfl, _, rfl, ?_⟩
  generalize upd (upd H q1 (.lst (ds.map V.int))) q2 (.lst []) = H0 at *
  have hp0 := l0 _ _ hp
  refine ite2 (fun c => ?_) (fun c => ?_)
  · have he : ds = [] := by
      cases h : ds with
      | nil => rfl
      | cons a r => rw [h] at c; cases c
    have := make_day (C := C) (H := H0) (Q := Q) (E := C8.E0) [false] 0 [] [false] (fun n => decide (n ∈ ds)) (by simp) (by simp) (by decide) (by decide) (by decide) (fun n => by rw [mem_kst, he]; simp) (fun r H' l hd h0 => qq r H' (l0.trans l) hd (l0.none h0))
    rw [rowS_0, rowS_nil] at this
    exact this
  have hne : ds ≠ [] := fun e => by rw [e] at c; exact absurd rfl c
  have sz : sizeLine = 16777216 := sizeLine_eq
  -- the least, the greatest
  refine ⟨_, rfl, p, rfl, ⟨_, .of hp0⟩, fun d1 hd1 => ?_⟩
  refine lc_pure walk_list hd1 (by rw [List.length_map]; omega) (fun _ le => .of (le _ _ hp0)) yat_le (fun i => (ds.map V.int)[i]?) ?_ ?_
  · rintro i x H1 H2 hi le ⟨rfl, hx⟩ N hN
    have := hN H2 .refl
    rw [hx] at this
    rw [List.getElem?_map] at hx
    obtain ⟨m, hm, rfl⟩ := Option.map_eq_some_iff.mp hx
    exact ⟨rfl, _, rfl, .inl ⟨m, rfl, this⟩⟩
  intro H1 l1 e1
  rw [fm_get] at e1
  refine ⟨d1, ds, rfl, .of e1, List.length_pos_iff.mpr hne, fun lo hlo hmin => ?_⟩
  have hp1 := l1 _ _ hp0
  refine ⟨_, rfl, p, rfl, ⟨_, .of hp1⟩, fun d2 hd2 => ?_⟩
  refine lc_pure walk_list hd2 (by rw [List.length_map]; omega) (fun _ le => .of (le _ _ hp1)) yat_le (fun i => (ds.map V.int)[i]?) ?_ ?_
  · rintro i x H1 H2 hi le ⟨rfl, hx⟩ N hN
    have := hN H2 .refl
    rw [hx] at this
    rw [List.getElem?_map] at hx
    obtain ⟨m, hm, rfl⟩ := Option.map_eq_some_iff.mp hx
    exact ⟨rfl, _, rfl, .inl ⟨m, rfl, this⟩⟩
  intro H2 l2 e2
  rw [fm_get] at e2
  refine ⟨d2, ds, rfl, .of e2, List.length_pos_iff.mpr hne, fun hi hhi hmax => ?_⟩
  have hp2 := l2 _ _ hp1
  refine ⟨_, _, rfl, rfl, ?_⟩
  have blo := hb lo hlo
  have bhi := hb hi hhi
  have hlh := hmin hi hhi
  -- known
  refine ⟨_, rfl, p, rfl, ⟨_, .of hp2⟩, fun dk hdk => ?_⟩
  refine dc_pure (XS := ds.map V.int) walk_list gives_at hdk (fun H le => .of (le _ _ hp2)) valI (fun _ => .bl true) (-1000000) 2000001 (by omega) ?_ (fun _ => rfl) ?_ ?_ ?_
  · intro x hx
    obtain ⟨a, ha, rfl⟩ := List.mem_map.mp hx
    have := hb a ha
    show _ ≤ a ∧ a < _
    omega
  · intro x H3 hx le N hN
    obtain ⟨a, _, rfl⟩ := List.mem_map.mp hx
    exact ⟨_, rfl, hN⟩
  · intro x H3 hx le N hN
    exact hN
  intro H3 kk Tk l3 e3 tk tk1 tk2
  have hTk : ∀ n, (Tk n).isSome = decide (n ∈ ds) := fun n => by
    rw [Bool.eq_iff_iff, decide_eq_true_iff]
    constructor
    · intro h
      obtain ⟨v, hv⟩ := Option.isSome_iff_exists.mp h
      obtain ⟨x, hx, rfl, _⟩ := tk1 n v hv
      obtain ⟨a, ha, rfl⟩ := List.mem_map.mp hx
      exact ha
    · intro h
      exact tk2 (.int n) (List.mem_map.mpr ⟨n, h, rfl⟩)
  -- the row
  refine ⟨_, rfl, ⟨_, rfl⟩, _, rfl, _, rfl, _, _, rfl, ⟨by omega, by omega, by omega, by omega⟩, fun d4 hd4 => ?_⟩
  have hN : (hi + 1 - lo).toNat = (hi - lo).toNat + 1 := by omega
  rw [hN]
  refine lc_pure walk_range hd4 (le_szl _ (by omega)) (fun _ _ => trivial) yfn_le (fun i => some (V.str ⟨#[sg (decide (lo + (i : Nat) ∈ ds))]⟩)) ?_ ?_
  · rintro i x H4 H5 hi4 le ⟨rfl, rfl⟩ N hN4
    refine ⟨rfl, ?_⟩
    have e34 := le _ _ e3
    have h4 := hN4 _ Le.refl
    rw [← str_bi] at h4
    refine ⟨_, rfl, _, rfl, dk, _, rfl, .k (k := .inl (lo + (i : Nat))) e34, .inr ⟨_, rfl, _, rfl, ?_, ?_⟩⟩
    · split <;> decide
    · rw [tk.val, hTk]
      exact h4
  intro H4 l4 e4
  have er : ∃ R : List Bool, R = (List.range ((hi - lo).toNat + 1)).map (fun i => decide (lo + (i : Nat) ∈ ds)) ∧ R.length = (hi - lo).toNat + 1 ∧ ∀ i, i < R.length → R.getD i false = decide (lo + (i : Nat) ∈ ds) := by
    refine ⟨_, rfl, by simp, fun i hi => ?_⟩
    rw [List.getD_eq_getElem?_getD, List.getElem?_map, List.getElem?_range (by simpa using hi)]
    rfl
  obtain ⟨R, eR, hR, hRi⟩ := er
  have e5 : H4 d4 = some (.lst ((R.map fun b => (⟨#[sg b]⟩ : Str)).map V.str)) := by
    rw [e4, eR, List.map_map, List.map_map]
    congr 2
    rw [← List.filterMap_eq_map]
    rfl
  refine ⟨_, d4, R.map fun b => (⟨#[sg b]⟩ : Str), rfl, rfl, .inl (.of e5), ?_, ?_⟩
  · have : ((R.map fun b => (⟨#[sg b]⟩ : Str)).map (·.length)).sum = R.length := by
      rw [List.map_map]
      have e6 : (R.map ((fun x : Str => x.length) ∘ fun b => (⟨#[sg b]⟩ : Str))) = R.map fun _ => 1 := List.map_congr_left fun _ _ => rfl
      rw [e6, sum_one]
    have e7 : (("" : Str)).length = 0 := by decide +kernel
    rw [this, e7, hR]
    omega
  rw [join_signs]
  have lAll : Le H H4 := (((l0.trans l1).trans l2).trans l3).trans l4
  have := make_day (C := C) (H := H4) (Q := Q) (E := C8.E0) [false] lo R [false] (fun n => decide (n ∈ ds)) (by simp) (by simp) (by decide) (by omega) (by decide) (fun n => by
    rw [mem_of]
    by_cases c : lo ≤ n ∧ n < lo + R.length
    · rw [if_pos c, hRi _ (by omega), show lo + (((n - lo).toNat : Nat) : Int) = n by omega]
    · rw [if_neg c]
      symm
      rw [decide_eq_false_iff_not]
      intro h
      have := hmin n h
      have := hmax n h
      omega) (fun r H' l hd h0 => qq r H' (lAll.trans l) hd (lAll.none h0))
  rw [rowS_0] at this
  exact this
end
end Od
end
section
set_option Elab.async false
set_option linter.all false
set_option maxRecDepth 100000
set_option maxHeartbeats 2000000
set_option autoImplicit false
namespace Od
open PySem PySem.Spec PyProof.Rows L2 C8 Day
abbrev s_star_of : Stmt := top 32
abbrev N_star_of : List Str := ["days", "up", "down", "parts", "size", "part"]
abbrev P_star_of : List Str := ["days"]
theorem sc_star_of : FnScope N_star_of P_star_of (C8.fnScope s_star_of) := fnScope_by (by decide +kernel)
abbrev s_DaySet_sums : Stmt := inClass (top 24) 29
abbrev N_DaySet_sums : List Str := ["self"]
abbrev P_DaySet_sums : List Str := ["self"]
theorem sc_DaySet_sums : FnScope N_DaySet_sums P_DaySet_sums (C8.fnScope s_DaySet_sums) := fnScope_by (by decide +kernel)
abbrev Of (f : Int → Bool) : Int → Prop := fun x => f x = true
def IsStar (f h : Int → Bool) : Prop := ∀ n, h n = true ↔ Star (Of f) n
/-- the next day up and down, if there is one, is within S -/
structure Near (f : Int → Bool) (S : Int) : Prop where
  up : ∀ d, 0 < d → f d = true → ∃ e, 0 < e ∧ e ≤ S ∧ f e = true
  dn : ∀ d, d < 0 → f d = true → ∃ e, -S ≤ e ∧ e < 0 ∧ f e = true
theorem Near.neg {f : Int → Bool} {S : Int} (h : Near f S) : Near (fun n => f (-n)) S :=
  ⟨fun d h1 h2 => by obtain ⟨e, e1, e2, e3⟩ := h.dn (-d) (by omega) h2; exact ⟨-e, by omega, by omega, by show f (-(-e)) = true; rw [Int.neg_neg]; exact e3⟩,
   fun d h1 h2 => by obtain ⟨e, e1, e2, e3⟩ := h.up (-d) (by omega) h2; exact ⟨-e, by omega, by omega, by show f (-(-e)) = true; rw [Int.neg_neg]; exact e3⟩⟩
theorem IsStar.neg {f h h' : Int → Bool} (s : IsStar (fun n => f (-n)) h) (e : ∀ n, h' n = h (-n)) : IsStar f h' := by
  have key : ∀ (f : Int → Bool) n, Star (Of fun n => f (-n)) n → Star (Of f) (-n) := fun f n hn => by
    induction hn with
    | zero => exact .zero
    | @add m y _ hy ih => rw [Int.neg_add]; exact ih.add hy
  intro n
  rw [e, s]
  constructor
  · intro h1
    have := key f _ h1
    rwa [Int.neg_neg] at this
  · intro h1
    exact key (fun n => f (-n)) n (h1.mono fun y hy => by show f (-(-y)) = true; rw [Int.neg_neg]; exact hy)
section
variable {P : Program} {w : World} {K : PySem.W.Frag} {mg : Str → Option Value} {base : Heap}
def sp_star (C : Addr) (cond : (Int → Bool) → Prop) (e : Int) : Sp := fun vs H Q _ => ∃ (p : Addr) (f : Int → Bool) (c b S : Int), vs = [.ref p] ∧ IsDay C H p f ∧ Ok f c b ∧ cond f ∧ b + e < 100000 ∧ c ≤ 2000 ∧ 1 ≤ S ∧ S ≤ 1000 ∧ Near f S ∧ S * farS S (b + e) c ≤ 900000 ∧
  ∀ r H' h s, Le H H' → IsDay C H' r h → IsStar f h → 0 < s → s ≤ S → Ok h s (S * farS S (b + e) c + 2 + e) → H r = none → Q (.ref r) H'
theorem c_vac (F : DefOf K mg "star_of" s_star_of P_star_of) : Cal P w K mg base 1 "star_of" (fun _ _ _ _ => False) [] := by
  obtain ⟨f, fd, F, B⟩ := F
  exact cal0 F B .nil sc_star_of (fun vs H Q E h => h.elim) (fun cdv A outer s H vs Q E hr h => h.elim)
theorem c_star {C : Addr} {j k : Nat} {spR : Sp} {cond : (Int → Bool) → Prop} {e : Int} (hj : 7 ≤ j) (hkj : k ≤ j) (he0 : 0 ≤ e) (he1 : e ≤ 1) (hrec : (∀ f, cond f → ∃ d, 0 < d ∧ f d = true) ∨ (e = 1 ∧ ∀ vs H Q E, sp_star C (fun f => ∃ d, 0 < d ∧ f d = true) 0 vs H Q E → spR vs H Q E))
    (T : Txt K mg) (D : DSC K mg C) (F : DefOf K mg "star_of" s_star_of P_star_of) (C_star_of : Cal P w K mg base k "star_of" spR []) (Q_DaySet_next_from : Met P w K mg base 3 C "next_from" (sp_next C) []) (Q_DaySet_last_until : Met P w K mg base 7 C "last_until" (sp_last C) [])
    (K_DaySet_of : CMt P w K mg base 6 C "of" (sp_of C)) (Q_DaySet___neg__ : Met P w K mg base 6 C "__neg__" (sp_neg C) []) (Q_DaySet_days_in : Met P w K mg base 2 C "days_in" (sp_days_in C) []) (Q_DaySet_goes_up : Met P w K mg base 1 C "goes_up" (sp_goes C Frm.r) []) (Q_DaySet_goes_down : Met P w K mg base 1 C "goes_down" (sp_goes C Frm.l) [])
    (C_divisor_of : Cal P w K mg base 1 "divisor_of" sp_divisor_of []) (C_set_of : Cal P w K mg base 6 "set_of" (sp_set_of C) []) (C_least_sums : Cal P w K mg base 3 "least_sums" (sp_least C) []) : Cal P w K mg base (j + 1) "star_of" (sp_star C cond e) [] := by
  obtain ⟨f, fd, F, B⟩ := F
  refine cal0 F B .nil sc_star_of (fun vs H Q E h => by obtain ⟨_, _, _, _, _, rfl, _⟩ := h; rfl) (fun cdv A outer s H vs Q E hr h => ?_)
  obtain ⟨p, f, c, b, S, rfl, hp, o1, hcd, b1, c1, S1, S2, nr, far, qq⟩ := h
  have nd := sc_star_of.nd
  refine ⟨_, (pss_cons (ps_par (i := 1) (j := 2) (by rfl) nd rfl rfl (by decide) rfl rfl (pa_cons (pe_mt Q_DaySet_next_from hr (by omega) (pv 0) (pa_cons pe_int pa_nil)) (pa_cons (pe_mt Q_DaySet_last_until hr (by omega) (pv 0) (pa_cons (pe_un un_neg pe_int) pa_nil)) pa_nil)) (by rfl))
      (pss_cons (ps_if (PW.pt (pw_and (pt_cmpR op_isN (pv 1) pe_non (nomark _)) (pw_and1 (pt_cmpR op_isN (pv 2) pe_non (nomark _))))) (pss_one (ps_ret (pe_cm K_DaySet_of hr (by omega) (pe_gc rfl D.g) (pa_cons (pe_lst (pa_cons pe_int pa_nil)) pa_nil)))) pss_nil)
      (pss_cons (ps_if (pt_cmpR op_isN (pv 1) pe_non (nomark _)) (pss_one (ps_ret (pe_un (un_ownNegM Q_DaySet___neg__ hr (by omega)) (pe_c C_star_of hr (by omega) rfl (pa_cons (pe_un (un_ownNegM Q_DaySet___neg__ hr (by omega)) (pv 0)) pa_nil))))) pss_nil)
      (pss_cons (ps_set (i := 3) nd rfl (Or.inl rfl) (pe_mt Q_DaySet_days_in hr (by omega) (pv 0) (pa_cons (pe_op op_sub (pe_fld (pv 0) rfl) (pe_callB call_len_str (by rfl) T.b_len (by decide +kernel) (pa_cons (pe_fld (pv 0) rfl) pa_nil))) (pa_cons (pe_op op_add (pe_fld (pv 0) rfl) (pe_callB call_len_str (by rfl) T.b_len (by decide +kernel) (pa_cons (pe_fld (pv 0) rfl) pa_nil))) pa_nil))))
      (pss_cons (ps_aug (i := 3) nd rfl (Or.inl rfl) (pe_op op_cat (pe_op op_rep (pe_lst (pa_cons (pe_callB call_len_str (by rfl) T.b_len (by decide +kernel) (pa_cons (pe_fld (pv 0) rfl) pa_nil)) pa_nil)) (pe_callTy call_int1 (by rfl) T.b_int (by decide +kernel) (pa_cons (pe_mt0 Q_DaySet_goes_down hr (by omega) (pv 0)) pa_nil))) (pe_op op_rep (pe_lst (pa_cons (pe_callB call_len_str (by rfl) T.b_len (by decide +kernel) (pa_cons (pe_fld (pv 0) rfl) pa_nil)) pa_nil)) (pe_callTy call_int1 (by rfl) T.b_int (by decide +kernel) (pa_cons (pe_mt0 Q_DaySet_goes_up hr (by omega) (pv 0)) pa_nil)))) L2.iop_ext)
      (pss_cons (ps_if (pt_cmpR op_notN (pv 2) pe_non (nomark _)) (pss_cons (ps_set (i := 4) nd rfl (Or.inl rfl) pe_int)
      (C8.pss_cut (ps_for PassesOwn.never rfl (pi_list (pv 3)) (pg_name (i := 5) nd rfl (Or.inl rfl)) (pss_one (ps_set (i := 4) nd rfl (Or.inl rfl) (pe_c C_divisor_of hr (by omega) rfl (pa_cons (pv 4) (pa_cons (pv 5) pa_nil))))))
      (pss_one (ps_ret (pe_c C_set_of hr (by omega) rfl (pa_cons (pv 4) (pa_cons pe_dnewK (pa_cons pe_dnewK (pa_cons pe_dnewK (pa_cons (pe_disp (pps_cons pe_int pe_bl pps_nil) (by rfl) (by rfl) (by simp) (by decide)) pa_nil)))))))))) pss_nil)
      (pss_one (ps_ret (pe_c C_set_of hr (by omega) rfl (pa_cons (pv 1) (pa_cons pe_dnewK (pa_cons (pe_c C_least_sums hr (by omega) rfl (pa_cons (pv 0) (pa_cons (pv 1) pa_nil))) (pa_cons pe_dnewK (pa_cons pe_dnewK pa_nil)))))))))))))), ?_⟩
  obtain ⟨F, hpF, rfl⟩ := hp.form
  obtain ⟨dx, L, z, hp1⟩ := id hpF
  obtain ⟨f1, f2, f3, f4, f5, f6, f7⟩ := o1.sizes L
  have c0 := o1.c0; have b0 := o1.b0
  have lh := F.low_high
  have lFl := prim_len L.l0
  have lFr := prim_len L.r0
  have szl' := z.l; have szr' := z.r
  refine ⟨_, rfl, _, _, _, rfl, hp1, by rfl, p, 1, F.mem, c, b, rfl, hp, o1, by decide, by decide, ?_⟩
  intro o H1 l1 ho
  have hp11 := l1 _ _ hp1
  refine ⟨_, rfl, _, _, _, rfl, hp11, by rfl, _, rfl, p, -1, F.mem, c, b, rfl, hp.le l1, o1, by omega, by decide, by decide, ?_⟩
  intro o' H2 l2 ho'
  have L2' : Le H H2 := l1.trans l2
  have hp2 := L2' _ _ hp1
  cases o with
  | none =>
    have hno : ∀ m, 0 < m → F.mem m = false := fun m hm => ho m (by omega)
    rcases hrec with hrec | ⟨e1, hrec⟩
    · obtain ⟨d0, d01, d02⟩ := hrec _ hcd
      rw [hno d0 d01] at d02
      cases d02
    subst e1
    refine ⟨_, _, rfl, ?_⟩
    cases o' with
    | none =>
      refine ⟨_, rfl, rfl, _, rfl, ?_⟩
      refine ⟨_, rfl, rfl, _, rfl, ?_⟩
      refine ⟨rfl, le_szl 1 (by decide), fun q1 n1 => ?_⟩
      refine ⟨q1, [0], rfl, upd_self, by decide, by intro d hd; simp at hd; omega, ?_⟩
      intro r H3 l3 hr3 hr0
      have kA := (Le.new (o := .lst [.int 0]) n1).trans l3
      have hlow : ∀ m, m < 0 → F.mem m = false := fun m hm => by
        have : F.mem (-(-m)) = false := ho' (-m) (by omega)
        rwa [Int.neg_neg] at this
      refine qq r H3 _ 1 (L2'.trans kA) hr3 ?_ (by decide) S1 ?_ ((L2'.trans (Le.new (o := .lst [.int 0]) n1)).none hr0)
      · have hs : ∀ n, Star (Of F.mem) n → n = 0 := fun n hn => by
          induction hn with
          | zero => rfl
          | @add m y _ hy ih =>
            have hy : F.mem y = true := hy
            have : y = 0 := by
              rcases Int.lt_trichotomy y 0 with h | h | h
              · rw [hlow y h] at hy; cases hy
              · exact h
              · rw [hno y h] at hy; cases hy
            omega
        intro n
        rw [decide_eq_true_iff, List.mem_singleton]
        exact ⟨fun h => h ▸ .zero, hs n⟩
      · have h1 : 0 ≤ S * farS S (b + 1) c := Int.mul_nonneg (by omega) (by unfold farS; have := Int.mul_nonneg (show 0 ≤ S by omega) (show 0 ≤ c by omega); omega)
        refine ⟨by decide, by decide, by omega, by omega, fun n hn => ?_, fun n hn => ?_⟩
        · show decide _ = decide _
          rw [decide_eq_false (by simp; omega), decide_eq_false (by simp; omega)]
        · show decide _ = decide _
          rw [decide_eq_false (by simp; omega), decide_eq_false (by simp; omega)]
    | some e0 =>
      obtain ⟨e01, e02, e03⟩ := ho'
      refine ⟨_, rfl, rfl, _, rfl, ?_⟩
      refine ⟨_, rfl, rfl, _, rfl, ?_⟩
      refine ⟨_, rfl, rfl, _, rfl, ?_⟩
      refine ⟨_, rfl, _, _, _, rfl, hp2, p, F.mem, rfl, hp.le L2', ?_⟩
      intro r1 H3 l3 d3 n3
      refine hrec _ _ _ _ ⟨r1, _, c, b + 1, S, rfl, d3, o1.neg (by omega), ⟨e0, by omega, e02⟩, by omega, c1, S1, S2, nr.neg, by rw [Int.add_zero]; exact far, ?_⟩
      intro r2 H4 h s l4 d4 st s0 s1 ok4 n4
      obtain ⟨G, hG, _⟩ := d4.form
      obtain ⟨_, _, _, e4⟩ := id hG
      refine ⟨_, _, _, rfl, e4, r2, h, rfl, d4, ?_⟩
      intro r3 H5 l5 d5 n5
      have kA := (L2'.trans l3).trans l4
      refine qq r3 H5 _ s (kA.trans l5) d5 (st.neg fun n => rfl) s0 s1 ?_ (kA.none n5)
      rw [Int.add_zero (b + 1), Int.add_zero] at ok4
      exact ok4.neg (by omega)
  | some up =>
  obtain ⟨u1, u2, u3⟩ := ho
  obtain ⟨e0, e01, e02, e03⟩ := nr.up up (by omega) u2
  have upS : up ≤ S := by
    rcases Int.lt_or_le e0 up with h | h
    · have := u3 e0 (by omega) h
      rw [e03] at this
      cases this
    · omega
  refine ⟨_, _, rfl, ?_⟩
  refine ⟨_, rfl, rfl, _, rfl, ?_⟩
  refine ⟨_, rfl, rfl, _, rfl, ?_⟩
  refine ⟨_, rfl, _, _, _, rfl, hp2, by rfl, _, rfl, _, _, _, _, _, rfl, hp2, D.cl, D.n_low, f_low F, _, rfl, _, _, _, _, _, rfl, hp2, D.cl, D.n_left, f_left F, _, rfl, szl z.l, _, _, rfl, rfl, _, rfl, _, _, _, _, _, rfl, hp2, D.cl, D.n_high, f_high F, _, rfl, _, _, _, _, _, rfl, hp2, D.cl, D.n_right, f_right F, _, rfl, szl z.r, _, _, rfl, rfl, ?_⟩
  rw [rowS_len, rowS_len]
  refine ⟨p, F.low - F.l.length, F.high + F.r.length, F.mem, rfl, hp.le L2', ⟨by omega, by omega, by omega, by omega⟩, by omega, ?_⟩
  intro dp H3 l3 n3 m3
  have L3 : Le H H3 := L2'.trans l3
  have hp3 := L3 _ _ hp1
  have dlen := daysIn_len F.mem (F.low - F.l.length) (F.high + F.r.length)
  -- parts
  refine ⟨_, rfl, ?_⟩
  refine ⟨_, rfl, _, _, _, _, _, rfl, hp3, D.cl, D.n_left, f_left F, _, rfl, szl z.l, le_szl 1 (by decide), fun q1 n1 => ?_⟩
  rw [rowS_len]
  have k1 : Le H3 (upd H3 q1 (.lst [.int (F.l.length : Int)])) := Le.new n1
  have hp4 := k1 _ _ hp3
  refine ⟨_, rfl, _, _, _, rfl, hp4, by rfl, p, F, rfl, (hpF.le L3).le k1, fun eD heD => .inr ⟨_, rfl, ?_⟩⟩
  refine ⟨q1, _, _, rfl, rfl, upd_self, by cases eD <;> decide, by cases eD <;> decide, le_szl _ (by cases eD <;> simp), fun q2 n2 => ?_⟩
  have r1 : (List.replicate (if eD = true then (1 : Int) else 0).toNat [V.int (F.l.length : Int)]).flatten = (if eD = true then [(F.l.length : Int)] else []).map V.int := by cases eD <;> rfl
  rw [r1]
  have k2 := k1.trans (Le.new (o := .lst ((if eD = true then [(F.l.length : Int)] else []).map V.int)) n2)
  have hp5 := k2 _ _ hp3
  refine ⟨_, rfl, _, _, _, _, _, rfl, hp5, D.cl, D.n_right, f_right F, _, rfl, szl z.r, le_szl 1 (by decide), fun q3 n4 => ?_⟩
  rw [rowS_len]
  have k3 := k2.trans (Le.new (o := .lst [.int (F.r.length : Int)]) n4)
  have hp6 := k3 _ _ hp3
  refine ⟨_, rfl, _, _, _, rfl, hp6, by rfl, p, F, rfl, (hpF.le L3).le k3, fun eU heU => .inr ⟨_, rfl, ?_⟩⟩
  refine ⟨q3, _, _, rfl, rfl, upd_self, by cases eU <;> decide, by cases eU <;> decide, le_szl _ (by cases eU <;> simp), fun q4 n5 => ?_⟩
  have r2 : (List.replicate (if eU = true then (1 : Int) else 0).toNat [V.int (F.r.length : Int)]).flatten = (if eU = true then [(F.r.length : Int)] else []).map V.int := by cases eU <;> rfl
  rw [r2]
  have k4 := k3.trans (Le.new (o := .lst ((if eU = true then [(F.r.length : Int)] else []).map V.int)) n5)
  have ne24 : q2 ≠ q4 := fun e => by
    rw [← e] at n5
    have := (Le.new (o := .lst [.int (F.r.length : Int)]) n4) q2 _ upd_self
    rw [n5] at this
    cases this
  have eq2 : upd (upd (upd (upd H3 q1 (.lst [.int (F.l.length : Int)])) q2 (.lst ((if eD = true then [(F.l.length : Int)] else []).map V.int))) q3 (.lst [.int (F.r.length : Int)])) q4 (.lst ((if eU = true then [(F.r.length : Int)] else []).map V.int)) q2 = some (.lst ((if eD = true then [(F.l.length : Int)] else []).map V.int)) :=
    ((Le.new n4).trans (Le.new n5)) q2 _ upd_self
  have lens : (if eD = true then [(F.l.length : Int)] else []).length ≤ 1 ∧ (if eU = true then [(F.r.length : Int)] else []).length ≤ 1 := by cases eD <;> cases eU <;> simp
  refine ⟨q2, q4, _, _, rfl, rfl, eq2, upd_self, by rw [List.length_map, List.length_map]; exact le_szl _ (by omega), fun q5 n6 => ?_⟩
  rw [← List.map_append]
  have k5 := k4.trans (Le.new (o := .lst (((if eD = true then [(F.l.length : Int)] else []) ++ (if eU = true then [(F.r.length : Int)] else [])).map V.int)) n6)
  have m5 := k5 _ _ m3
  refine ⟨dp, q5, _, _, rfl, rfl, m5, upd_self, by rw [List.length_map, List.length_map, List.length_append]; exact le_szl _ (by omega), ?_⟩
  rw [← List.map_append]
  have hdp : H dp = none := L2'.none n3
  have L6 : Le H (upd _ dp (.lst ((daysIn F.mem (F.low - F.l.length) (F.high + F.r.length) ++ ((if eD = true then [(F.l.length : Int)] else []) ++ (if eU = true then [(F.r.length : Int)] else []))).map V.int))) := (L3.trans k5).upd hdp
  have m6 := upd_self (H := upd (upd (upd (upd (upd H3 q1 (.lst [.int (F.l.length : Int)])) q2 (.lst ((if eD = true then [(F.l.length : Int)] else []).map V.int))) q3 (.lst [.int (F.r.length : Int)])) q4 (.lst ((if eU = true then [(F.r.length : Int)] else []).map V.int))) q5 (.lst (((if eD = true then [(F.l.length : Int)] else []) ++ (if eU = true then [(F.r.length : Int)] else [])).map V.int))) (p := dp) (o := .lst ((daysIn F.mem (F.low - F.l.length) (F.high + F.r.length) ++ ((if eD = true then [(F.l.length : Int)] else []) ++ (if eU = true then [(F.r.length : Int)] else []))).map V.int))
  generalize hH6 : upd _ dp (.lst ((daysIn F.mem (F.low - F.l.length) (F.high + F.r.length) ++ ((if eD = true then [(F.l.length : Int)] else []) ++ (if eU = true then [(F.r.length : Int)] else []))).map V.int)) = H6 at L6 m6
  have hpl : (daysIn F.mem (F.low - F.l.length) (F.high + F.r.length) ++ ((if eD = true then [(F.l.length : Int)] else []) ++ (if eU = true then [(F.r.length : Int)] else []))).length ≤ 16777216 := by rw [List.length_append, List.length_append]; omega
  have mpl : ∀ y, y ∈ daysIn F.mem (F.low - F.l.length) (F.high + F.r.length) ++ ((if eD = true then [(F.l.length : Int)] else []) ++ (if eU = true then [(F.r.length : Int)] else [])) ↔ (F.low - F.l.length ≤ y ∧ y < F.high + F.r.length ∧ F.mem y = true) ∨ (eD = true ∧ y = F.l.length) ∨ (eU = true ∧ y = F.r.length) := fun y => by
    rw [List.mem_append, List.mem_append, mem_daysIn]
    cases eD <;> cases eU <;> simp
  generalize daysIn F.mem (F.low - F.l.length) (F.high + F.r.length) ++ ((if eD = true then [(F.l.length : Int)] else []) ++ (if eU = true then [(F.r.length : Int)] else [])) = PL at *
  have fm1 : up * farS up b c ≤ S * farS S (b + e) c ∧ farS up b c ≤ farS S (b + e) c ∧ 0 ≤ farS up b c ∧ farS S (b + e) c ≤ S * farS S (b + e) c := by
    have a1 : up * c ≤ S * c := Int.mul_le_mul_of_nonneg_right upS (by omega)
    have a0 : 0 ≤ up * c := Int.mul_nonneg (by omega) (by omega)
    have a2 : farS up b c ≤ farS S (b + e) c := by unfold farS; omega
    have a3 : 0 ≤ farS up b c := by unfold farS; omega
    have a4 : up * farS up b c ≤ S * farS S (b + e) c := Int.le_trans (Int.mul_le_mul_of_nonneg_right upS a3) (Int.mul_le_mul_of_nonneg_left a2 (by omega))
    refine ⟨a4, a2, a3, ?_⟩
    have := Int.mul_le_mul_of_nonneg_right S1 (show 0 ≤ farS S (b + e) c by omega)
    omega
  obtain ⟨fm2, fm3, fm4, fm5⟩ := fm1
  have fm6 : 0 ≤ up * farS up b c := Int.mul_nonneg (by omega) fm4
  cases o' with
  | none =>
    have hneg : ∀ m, m < 0 → F.mem m = false := fun m hm => by
      have : F.mem (-(-m)) = false := ho' (-m) (by omega)
      rwa [Int.neg_neg] at this
    refine ⟨_, rfl, rfl, _, rfl, ?_⟩
    refine ⟨_, rfl, fun w1 j1 => ?_⟩
    have kA : Le H (upd H6 w1 (.dK [])) := L6.trans (Le.new j1)
    refine ⟨_, rfl, _, rfl, p, up, F.mem, c, b, rfl, hp.le kA, o1, by omega, by omega, u2, hneg, fun m m1 m2 => u3 m (by omega) m2, by omega, by omega, ?_⟩
    intro d7 H7 k7 T7 l7 j7 m7 t7 g1 g2 w3 j3 w4 j4
    have kB : Le (upd H6 w1 (.dK [])) (upd (upd H7 w3 (.dK [])) w4 (.dK [])) := (l7.trans (Le.new j3)).trans (Le.new j4)
    refine ⟨up, w1, d7, w3, w4, [], k7, [], [], fun _ => none, T7, fun _ => none, fun _ => none, up * farS up b c, rfl, kB _ _ upd_self, ((Le.new j3).trans (Le.new j4)) _ _ m7, (Le.new j4) _ _ upd_self, upd_self, .nil, t7, Tab.nil, .nil, ?_, ⟨fun k v h => (by cases h), fun k v h => ?_, fun k v h => (by cases h)⟩, by omega, by omega, by omega, by omega, ?_⟩
    · have := Tab.len (lo := 0) (n := up.toNat) t7 fun k v hk => by
        obtain ⟨m, hm, rfl⟩ := Option.map_eq_some_iff.mp hk
        have := (g1 k m hm).1
        have h1 := Int.emod_nonneg m (show up ≠ 0 by omega)
        have h2 := Int.emod_lt_of_pos m (show 0 < up by omega)
        omega
      simp only [List.length_nil]
      omega
    · obtain ⟨_, _, h1, h2⟩ := g1 k v h
      omega
    · intro r H8 l8 hr8 hr0
      have bnd : ∀ k v, T7 k = some v → 0 ≤ v ∧ v < up * farS up b c + 1 := fun k v h => by
        obtain ⟨_, _, h1, h2⟩ := g1 k v h
        omega
      refine qq r H8 _ up ((kA.trans kB).trans l8) hr8 ?_ (by omega) upS ?_ ((kA.trans kB).none hr0)
      · intro n
        have e1 : setB up (fun _ => none) T7 (fun _ => none) (fun _ => none) n = geO (T7 (n % up)) n := by
          unfold setB
          simp [leO]
        rw [e1]
        constructor
        · intro hg
          cases hT : T7 (n % up) with
          | none => rw [hT] at hg; cases hg
          | some v =>
            rw [hT] at hg
            have hle : v ≤ n := of_decide_eq_true hg
            obtain ⟨h1, h2, _⟩ := g1 _ v hT
            have h3 : (n - v) % up = 0 := Int.emod_eq_emod_iff_emod_sub_eq_zero.mp h1.symm
            obtain ⟨k, hk⟩ := Int.dvd_of_emod_eq_zero h3
            have k0 : 0 ≤ k := by
              rcases Int.lt_or_le k 0 with c | c
              · have := Int.mul_neg_of_pos_of_neg (show 0 < up by omega) c
                omega
              · exact c
            have := h2.plus ((Star.one (Y := Of F.mem) u2).times k.toNat)
            rw [show ((k.toNat : Nat) : Int) = k by omega, Int.mul_comm k up, ← hk, show v + (n - v) = n by omega] at this
            exact this
        · intro hs
          obtain ⟨v, hv, hle⟩ := g2 n hs
          rw [hv]
          exact decide_eq_true hle
      · have hU := setB_up (size := up) (Tp := fun _ => none) (Tf := T7) (Tl := fun _ => none) (Tw := fun _ => none) (hi := up * farS up b c + 1) (by omega) (fun k v h => by cases h) (fun k v h => (bnd k v h).2) (fun k v h => by cases h)
        have hD := setB_dn (size := up) (Tp := fun _ => none) (Tf := T7) (Tl := fun _ => none) (Tw := fun _ => none) (lo := 0) (by omega) (fun k v h => by cases h) (fun k v h => (bnd k v h).1) (fun k v h => by cases h)
        have hfar : up * farS up b c + 1 ≤ S * farS S (b + e) c + 2 + e := by omega
        have hfar2 : 0 ≤ up * farS up b c := Int.mul_nonneg (by omega) fm4
        exact ⟨by omega, by omega, by omega, by omega, hU.mono hfar, hD.mono (by omega)⟩
  | some d9 =>
    obtain ⟨e1, e2, e3⟩ := ho'
    have e2 : F.mem (-d9) = true := e2
    have hn : ∀ n, Star (Of F.mem) n → Star (Of F.mem) (-n) := fun n h => Star.neg (Y := Of F.mem) u2 e2 (by omega) (by omega) h
    -- the rows' lengths are sums
    have sU : eU = true → Star (Of F.mem) (F.r.length : Int) := fun h => by
      obtain ⟨i, hi, hc⟩ := mem_cyc (heU.mp h)
      have h1 : F.mem (F.high + i) = true := by rw [F.mem_up (by omega), show F.high + (i : Int) - F.high = i by omega]; exact hc
      have h2 : F.mem (F.high + i + F.r.length) = true := by rw [F.up (by omega)]; exact h1
      have := (Star.one (Y := Of F.mem) h2).plus (hn _ (Star.one (Y := Of F.mem) h1))
      rwa [show F.high + (i : Int) + F.r.length + -(F.high + i) = F.r.length by omega] at this
    have sD : eD = true → Star (Of F.mem) (F.l.length : Int) := fun h => by
      obtain ⟨i, hi, hc⟩ := mem_cyc (heD.mp h)
      have h1 : F.mem (F.low - F.l.length + i) = true := by
        rw [F.mem_dn (by omega), show F.low - (F.l.length : Int) + (i : Int) - F.low = (i : Int) + (-1) * F.l.length by omega, cyc_per.at]
        exact hc
      have h2 : F.mem (F.low - F.l.length + i - F.l.length) = true := by rw [F.dn (by omega)]; exact h1
      have := (Star.one (Y := Of F.mem) h1).plus (hn _ (Star.one (Y := Of F.mem) h2))
      rwa [show F.low - (F.l.length : Int) + i + -(F.low - F.l.length + i - F.l.length) = F.l.length by omega] at this
    have sP : ∀ y ∈ PL, Star (Of F.mem) y := fun y hy => by
      rcases (mpl y).mp hy with h | ⟨h, rfl⟩ | ⟨h, rfl⟩
      · exact Star.one (Y := Of F.mem) h.2.2
      · exact sD h
      · exact sU h
    refine ⟨_, rfl, rfl, _, rfl, ?_⟩
    refine ⟨fun σ' H' => H' = H6 ∧ ∃ (g : Nat) (x : Option V), σ' = [some (.ref p), some (.int up), some (.int (-d9)), some (.ref dp), some (.int (g : Int)), x] ∧ Star (Of F.mem) (g : Int) ∧ ∀ y ∈ PL, (g : Int) ∣ y, ?_, ?_⟩
    · refine ⟨_, rfl, dp, rfl, ⟨_, .of m6⟩, ?_⟩
      refine for_list (xs := PL.map V.int) (fun i σ' H' => H' = H6 ∧ ∃ (g : Nat) (x : Option V), σ' = [some (.ref p), some (.int up), some (.int (-d9)), some (.ref dp), some (.int (g : Int)), x] ∧ Star (Of F.mem) (g : Int) ∧ ∀ y ∈ PL.take i, (g : Int) ∣ y) ?_ ?_ ?_ ?_
      · exact ⟨rfl, 0, _, rfl, .zero, fun y hy => (by simp at hy)⟩
      · rintro i σ' H' _ ⟨rfl, _⟩
        exact .of m6
      · rintro i x σ' H' hx ⟨rfl, g, x5, rfl, sg', dg⟩
        rw [List.getElem?_map] at hx
        obtain ⟨y, hy, rfl⟩ := Option.map_eq_some_iff.mp hx
        have hyP := List.mem_of_getElem? hy
        refine ⟨_, rfl, _, rfl, (g : Int), y, rfl, rfl, Nat.gcd g y.natAbs, some (.int y), ?_, ?_, fun z hz => ?_⟩
        · unfold gcdI
          rw [Int.natAbs_natCast]
          rfl
        · have := gcd_star hn sg' (sP y hyP)
          rwa [Int.natAbs_natCast] at this
        · rw [List.take_add_one, hy, List.mem_append] at hz
          have hz : z ∈ PL.take i ∨ z = y := by simpa using hz
          rcases hz with h | rfl
          · exact Int.dvd_trans (Int.natCast_dvd_natCast.mpr (Nat.gcd_dvd_left _ _)) (dg z h)
          · exact Int.dvd_natAbs.mp (Int.natCast_dvd_natCast.mpr (Nat.gcd_dvd_right _ _))
      · rintro σ' H' ⟨e1, g, x, e2, e3, e4⟩
        rw [List.length_map, List.take_of_length_le (Nat.le_refl _)] at e4
        exact ⟨e1, g, x, e2, e3, e4⟩
    rintro σ' H' ⟨rfl, g, x5, rfl, sg', dg⟩
    -- all days are multiples
    have dvU : eU = true → (g : Int) ∣ (F.r.length : Int) := fun h => dg _ ((mpl _).mpr (.inr (.inr ⟨h, rfl⟩)))
    have dvD : eD = true → (g : Int) ∣ (F.l.length : Int) := fun h => dg _ ((mpl _).mpr (.inr (.inl ⟨h, rfl⟩)))
    have same : ∀ (q y d : Int), (g : Int) ∣ q → y % q = d % q → (g : Int) ∣ y → (g : Int) ∣ d := fun q y d h1 h2 h3 => by
      have h4 : (d - y) % q = 0 := Int.emod_eq_emod_iff_emod_sub_eq_zero.mp h2.symm
      have h5 : (g : Int) ∣ (d - y) := Int.dvd_trans h1 (Int.dvd_of_emod_eq_zero h4)
      have := Int.dvd_add h5 h3
      rwa [show d - y + y = d by omega] at this
    have dall : ∀ d, F.mem d = true → (g : Int) ∣ d := fun d hd => by
      by_cases c1 : F.high ≤ d
      · have : eU = true := heU.mpr (by rw [F.mem_up c1] at hd; exact cyc_mem L.r0 _ hd)
        obtain ⟨d', q1, q2, _, q4, q5⟩ := down_to (by omega) L.up_high c1 hd
        exact same _ d' d (dvU this) q4 (dg d' ((mpl d').mpr (.inl ⟨by omega, q2, q5⟩)))
      · by_cases c2 : d < F.low
        · have : eD = true := heD.mpr (by rw [F.mem_dn c2] at hd; exact cyc_mem L.l0 _ hd)
          obtain ⟨d', q1, q2, _, q4, q5⟩ := up_to (by omega) L.dn_low c2 hd
          exact same _ d' d (dvD this) q4 (dg d' ((mpl d').mpr (.inl ⟨q1, by omega, q5⟩)))
        · exact dg d ((mpl d).mpr (.inl ⟨by omega, by omega, hd⟩))
    have dvS : ∀ n, Star (Of F.mem) n → (g : Int) ∣ n := fun n hn' => by
      induction hn' with
      | zero => exact Int.dvd_zero _
      | add _ hy ih => exact Int.dvd_add ih (dall _ hy)
    have gup : (g : Int) ∣ up := dall up u2
    have g0 : 0 < (g : Int) := by
      rcases Nat.eq_zero_or_pos g with h | h
      · subst h
        have := Int.zero_dvd.mp gup
        omega
      · omega
    have gS : (g : Int) ≤ S := Int.le_trans (Int.le_of_dvd (by omega) gup) upS
    refine ⟨_, rfl, fun w1 j1 w2 j2 w3 j3 w4 j4 => ?_⟩
    refine ⟨upd_self, [(.inl 0, .bl true)], rfl, by decide, ?_⟩
    have lw : ∀ {A C : Hp} {o o' : HO}, Le A C → C w4 = none → Le A (upd (upd C w4 o) w4 o') := fun {A C o o'} l h => (l.upd (l.none h)).upd (l.none h)
    have y1 := (lw (o := .dK []) (o' := .dK (mergeK [] [(.inl 0, .bl true)])) ((Le.new (o := .dK []) j2).trans (Le.new (o := .dK []) j3)) j4) w1 _ upd_self
    have y2 := (lw (o := .dK []) (o' := .dK (mergeK [] [(.inl 0, .bl true)])) (Le.new (o := .dK []) j3) j4) w2 _ upd_self
    have y3 := (lw (o := .dK []) (o' := .dK (mergeK [] [(.inl 0, .bl true)])) (Le.refl) j4) w3 _ upd_self
    have kA := lw (o := .dK []) (o' := .dK (mergeK [] [(.inl 0, .bl true)])) (((Le.new (o := .dK []) j1).trans (Le.new (o := .dK []) j2)).trans (Le.new (o := .dK []) j3)) j4
    refine ⟨(g : Int), w1, w2, w3, w4, [], [], [], _, fun _ => none, fun _ => none, fun _ => none, _, 0, rfl, y1, y2, y3, upd_self, .nil, Tab.nil, Tab.nil, Tab.nil.put 0 (.bl true), by decide, ⟨fun k v h => (by cases h), fun k v h => (by cases h), fun k v h => (by cases h)⟩, g0, by omega, by decide, by decide, ?_⟩
    intro r H8 l8 hr8 hr0
    refine qq r H8 _ (g : Int) ((L6.trans kA).trans l8) hr8 ?_ g0 gS ?_ ((L6.trans kA).none hr0)
    · intro n
      have e1 : setB (g : Int) (fun _ => none) (fun _ => none) (fun _ => none) (fun j => if j = 0 then some (.bl true) else none) n = decide (n % (g : Int) = 0) := by
        unfold setB
        by_cases c : n % (g : Int) = 0
        · simp [c]
        · simp [c, geO, leO]
      rw [e1, decide_eq_true_iff]
      constructor
      · intro h
        obtain ⟨k, hk⟩ := Int.dvd_of_emod_eq_zero h
        rw [hk, Int.mul_comm]
        exact Star.whole hn sg' k
      · intro h
        exact Int.emod_eq_zero_of_dvd (dvS n h)
    · have hU := setB_up (size := (g : Int)) (Tp := fun _ => none) (Tf := fun _ => none) (Tl := fun _ => none) (Tw := fun j => if j = 0 then some (V.bl true) else none) (hi := 0) g0 (fun k v h => by cases h) (fun k v h => by cases h) (fun k v h => by cases h)
      have hD := setB_dn (size := (g : Int)) (Tp := fun _ => none) (Tf := fun _ => none) (Tl := fun _ => none) (Tw := fun j => if j = 0 then some (V.bl true) else none) (lo := 0) g0 (fun k v h => by cases h) (fun k v h => by cases h) (fun k v h => by cases h)
      have hf : 0 ≤ S * farS S (b + e) c + 2 + e := by omega
      exact ⟨g0, by omega, hf, by omega, hU.mono hf, hD.mono (by omega)⟩
theorem q_sums {C : Addr} {j : Nat} {sp : Sp} (hlen : ∀ vs H Q E, sp vs H Q E → vs.length = 1) (hE : ∀ vs H Q E E', sp vs H Q E → sp vs H Q E') (T : Txt K mg) (D : DSC K mg C) (M : MetOf K C "sums" "DaySet.sums" s_DaySet_sums P_DaySet_sums) (C_star_of : Cal P w K mg base j "star_of" sp []) : Met P w K mg base (j + 1) C "sums" sp [] := by
  obtain ⟨g, fd, M, F, B⟩ := M
  refine met0 D.cl M F B sc_DaySet_sums hlen (fun cdv A outer s H vs Q E hr h => ?_)
  have nd := sc_DaySet_sums.nd
  have hl := hlen _ _ _ _ h
  match vs, hl with
  | [v], _ =>
  refine ⟨_, (pss_one (ps_ret (pe_c C_star_of hr (by omega) rfl (pa_cons (pv 0) pa_nil)))), ?_⟩
  refine ⟨_, rfl, ?_⟩
  exact hE _ _ _ _ _ h
end
end Od
end
section
set_option Elab.async false
set_option linter.all false
set_option maxRecDepth 100000
set_option maxHeartbeats 2000000
set_option autoImplicit false
/-! comprehensions that make new things, told by lists beside them -/
namespace Od
open PySem PySem.Spec PyProof.Rows L2
inductive All2 {α : Type} (P : V → α → Prop) : List V → List α → Prop
  | nil : All2 P [] []
  | cons {v : V} {vs : List V} {s : α} {S : List α} : P v s → All2 P vs S → All2 P (v :: vs) (s :: S)
section
variable {α : Type} {P Q : V → α → Prop}
theorem All2.imp {vs : List V} {S : List α} (h : All2 P vs S) (i : ∀ v s, P v s → Q v s) : All2 Q vs S := by
  induction h with
  | nil => exact .nil
  | cons h _ ih => exact .cons (i _ _ h) ih
theorem All2.len {vs : List V} {S : List α} (h : All2 P vs S) : vs.length = S.length := by
  induction h with
  | nil => rfl
  | cons _ _ ih => rw [List.length_cons, List.length_cons, ih]
theorem All2.app {vs ws : List V} {S T : List α} (h : All2 P vs S) (h' : All2 P ws T) : All2 P (vs ++ ws) (S ++ T) := by
  induction h with
  | nil => exact h'
  | cons h _ ih => exact .cons h ih
theorem All2.get {vs : List V} {S : List α} (h : All2 P vs S) : ∀ {i : Nat} {v : V}, vs[i]? = some v → ∃ s, S[i]? = some s ∧ P v s := by
  induction h with
  | nil => intro i v e; simp at e
  | cons h _ ih =>
    intro i v e
    cases i with
    | zero => exact ⟨_, rfl, by cases e; exact h⟩
    | succ i => exact ih e
theorem All2.mem {vs : List V} {S : List α} (h : All2 P vs S) {v : V} (hv : v ∈ vs) : ∃ s ∈ S, P v s := by
  obtain ⟨i, hi, e⟩ := List.mem_iff_getElem.mp hv
  obtain ⟨s, hs, h2⟩ := h.get (List.getElem?_eq_some_iff.mpr ⟨hi, e⟩)
  exact ⟨s, List.mem_of_getElem? hs, h2⟩
end
theorem take_snoc {α : Type} {S : List α} {j : Nat} {s : α} (h : S[j]? = some s) : S.take (j + 1) = S.take j ++ [s] := by
  rw [List.take_add_one, h]
  rfl
section
variable {α β γ : Type} {J J1 : It} {n n1 : Nat} {G G1 : Hp → Prop} {Y Y1 : Nat → Hp → V → Hp → Prop} {xs ys : List V} {g g1 : TG} {wi1 : TI} {te : TE} {vs vs1 : List Nat} {σ : L2.St} {H1 : Hp} {D : Addr} {Qd : Hp → Prop}
/-- [e for x in xs] -/
theorem lc_eff (w : Walk J xs.length G Y) (hY : Gives Y xs) (hD : H1 D = none) (hG : ∀ H, Le H1 H → G H) (R : List α) (hR : R.length = xs.length) (hn : xs.length ≤ sizeLine) (comb : α → γ) (Rel : V → γ → Hp → Prop)
    (mono : ∀ v s H H', LeX D H H' → (∃ acc, H D = some (.lst acc)) → Rel v s H → Rel v s H')
    (hg : ∀ (i : Nat) (x : V) (r : α) (H : Hp), xs[i]? = some x → R[i]? = some r → Le H1 H → ∃ σx, wipe σx vs = wipe σ vs ∧ (∀ K2 : L2.St → Hp → Prop, K2 σx H → g x (wipe σ vs) H K2) ∧ ∀ N : VK, (∀ v H2, Le H H2 → Rel v (comb r) H2 → N v H2) → te σx H N)
    (hd : ∀ H us, Le H1 H → H D = some (.lst us) → All2 (fun v s => Rel v s H) us (R.map comb) → Qd H) :
    ∃ W : Nat → Nat → Hp → Prop, (∃ m, W 0 m (upd H1 D (.lst []))) ∧ ∀ i m H, W i m H →
      (J.stop i H ∧ Qd H) ∨ (J.go i H ∧ ∃ Nx : Hp → Prop, (∀ H', Nx H' → ∃ m', m' < m ∧ W (i + 1) m' H') ∧ ∀ x H', J.yld i H x H' → g x (wipe σ vs) H' fun σ2 H2 => wipe σ2 vs = wipe σ vs ∧ tYes σ2 H2 fun b H3 =>
        if b = true then te σ2 H3 fun y H4 => ∃ acc, H4 D = some (.lst acc) ∧ acc.length < sizeLine ∧ Nx (upd H4 D (.lst (acc ++ [y]))) else Nx H3) := by
  refine ⟨fun i m H => m = xs.length - i ∧ i ≤ xs.length ∧ Le H1 H ∧ ∃ us, H D = some (.lst us) ∧ All2 (fun v s => Rel v s H) us ((R.take i).map comb), ⟨_, rfl, Nat.zero_le _, Le.new hD, [], upd_self, .nil⟩, ?_⟩
  rintro i m H ⟨rfl, hiX, le, us, e, h2⟩
  by_cases hlt : i < xs.length
  · refine .inr ⟨w.goes i H hlt (hG H le), fun H' => Le H1 H' ∧ ∃ us, H' D = some (.lst us) ∧ All2 (fun v s => Rel v s H') us ((R.take (i + 1)).map comb), fun H' p => ⟨xs.length - (i + 1), by omega, rfl, hlt, p⟩, fun x H' y => ?_⟩
    obtain ⟨rfl, hx⟩ := hY i H x H' (w.yields i H x H' hlt (hG H le) y)
    have hr : R[i]? = some (R[i]'(by omega)) := List.getElem?_eq_getElem _
    obtain ⟨σx, w1, w2, w3⟩ := hg i x _ H' hx hr le
    refine w2 _ ⟨w1, ?_⟩
    show te σx H' _
    refine w3 _ fun v H2 l2 hv => ?_
    have e2 := l2 _ _ e
    have hul := h2.len
    rw [List.length_map, List.length_take] at hul
    refine ⟨us, e2, by omega, (le.trans l2).upd hD, us ++ [v], upd_self, ?_⟩
    have lx : LeX D H2 (upd H2 D (.lst (us ++ [v]))) := Le.refl.x.upd
    rw [take_snoc hr, List.map_append]
    exact (h2.imp fun v s q => mono v s _ _ lx ⟨_, e2⟩ (mono v s _ _ l2.x ⟨_, e⟩ q)).app (.cons (mono v _ _ _ lx ⟨_, e2⟩ hv) .nil)
  · have ei : i = xs.length := by omega
    subst ei
    rw [← hR, List.take_length] at h2
    exact .inl ⟨w.stops H (hG H le), hd H us le e h2⟩
/-- [e for x in xs for y in ys] -/
theorem lc2_eff (w : Walk J xs.length G Y) (hY : Gives Y xs) (w1 : Walk J1 ys.length G1 Y1) (hY1 : Gives Y1 ys) (hD : H1 D = none) (hG : ∀ H, Le H1 H → G H) (hG1 : ∀ H, Le H1 H → G1 H) (R : List α) (S : List β) (hR : R.length = xs.length) (hS : S.length = ys.length) (hn : xs.length * ys.length ≤ sizeLine) (comb : α → β → γ) (Rel : V → γ → Hp → Prop)
    (mono : ∀ v s H H', LeX D H H' → (∃ acc, H D = some (.lst acc)) → Rel v s H → Rel v s H')
    (hg : ∀ (i : Nat) (x : V) (r : α) (H : Hp), xs[i]? = some x → R[i]? = some r → Le H1 H → ∃ σx, wipe σx vs = wipe σ vs ∧ (∀ K2 : L2.St → Hp → Prop, K2 σx H → g x (wipe σ vs) H K2) ∧ (∀ Rr : It → Hp → Prop, Rr J1 H → wi1 σx H Rr) ∧
      ∀ (j : Nat) (y : V) (s : β) (H' : Hp), ys[j]? = some y → S[j]? = some s → Le H1 H' → ∃ σy, wipe σy vs1 = wipe σx vs1 ∧ (∀ K3 : L2.St → Hp → Prop, K3 σy H' → g1 y (wipe σx vs1) H' K3) ∧ ∀ N : VK, (∀ v H2, Le H' H2 → Rel v (comb r s) H2 → N v H2) → te σy H' N)
    (hd : ∀ H us, Le H1 H → H D = some (.lst us) → All2 (fun v s => Rel v s H) us (R.flatMap fun r => S.map (comb r)) → Qd H) :
    ∃ W : Nat → Nat → Hp → Prop, (∃ m, W 0 m (upd H1 D (.lst []))) ∧ ∀ i m H, W i m H →
  (J.stop i H ∧ Qd H) ∨ (J.go i H ∧ ∃ Nx : Hp → Prop, (∀ H', Nx H' → ∃ m', m' < m ∧ W (i + 1) m' H') ∧ ∀ x H', J.yld i H x H' → g x (wipe σ vs) H' fun σ2 H2 => wipe σ2 vs = wipe σ vs ∧ tYes σ2 H2 fun b H3 =>
    if b = true then wi1 σ2 H3 fun J1 H4 => ∃ W1 : Nat → Nat → Hp → Prop, (∃ m, W1 0 m H4) ∧ ∀ j k H, W1 j k H →
      (J1.stop j H ∧ Nx H) ∨ (J1.go j H ∧ ∃ Nx1 : Hp → Prop, (∀ H', Nx1 H' → ∃ k', k' < k ∧ W1 (j + 1) k' H') ∧ ∀ x H', J1.yld j H x H' → g1 x (wipe σ2 vs1) H' fun σ3 H5 => wipe σ3 vs1 = wipe σ2 vs1 ∧ tYes σ3 H5 fun b H6 =>
        if b = true then te σ3 H6 fun y H7 => ∃ acc, H7 D = some (.lst acc) ∧ acc.length < sizeLine ∧ Nx1 (upd H7 D (.lst (acc ++ [y]))) else Nx1 H6)
    else Nx H3) := by
  have lenT : ∀ i, ((R.take i).flatMap fun r => S.map (comb r)).length ≤ i * S.length := fun i => by
    have := flat_len (fun r => S.map (comb r)) S.length (fun x => by rw [List.length_map]; exact Nat.le_refl _) (R.take i)
    have h2 : (R.take i).length ≤ i := by rw [List.length_take]; omega
    exact Nat.le_trans this (Nat.mul_le_mul_right _ h2)
  refine ⟨fun i m H => m = xs.length - i ∧ i ≤ xs.length ∧ Le H1 H ∧ ∃ us, H D = some (.lst us) ∧ All2 (fun v s => Rel v s H) us ((R.take i).flatMap fun r => S.map (comb r)), ⟨_, rfl, Nat.zero_le _, Le.new hD, [], upd_self, .nil⟩, ?_⟩
  rintro i m H ⟨rfl, hiX, le, us, e, h2⟩
  by_cases hlt : i < xs.length
  · refine .inr ⟨w.goes i H hlt (hG H le), fun H' => Le H1 H' ∧ ∃ us, H' D = some (.lst us) ∧ All2 (fun v s => Rel v s H') us ((R.take (i + 1)).flatMap fun r => S.map (comb r)), fun H' p => ⟨xs.length - (i + 1), by omega, rfl, hlt, p⟩, fun x H' y => ?_⟩
    obtain ⟨rfl, hx⟩ := hY i H x H' (w.yields i H x H' hlt (hG H le) y)
    have hr : R[i]? = some (R[i]'(by omega)) := List.getElem?_eq_getElem _
    generalize R[i]'(by omega) = r at hr
    obtain ⟨σx, x1, x2, x3, x4⟩ := hg i x r H' hx hr le
    refine x2 _ ⟨x1, ?_⟩
    show wi1 σx H' _
    refine x3 _ ?_
    refine ⟨fun j k H => k = ys.length - j ∧ j ≤ ys.length ∧ Le H1 H ∧ ∃ us, H D = some (.lst us) ∧ All2 (fun v s => Rel v s H) us (((R.take i).flatMap fun r => S.map (comb r)) ++ (S.take j).map (comb r)), ⟨_, rfl, Nat.zero_le _, le, us, e, by simpa using h2⟩, ?_⟩
    clear h2 e us le
    rintro j k H2 ⟨rfl, hjY, le2, us, e2, h2⟩
    by_cases hlt2 : j < ys.length
    · refine .inr ⟨w1.goes j H2 hlt2 (hG1 H2 le2), fun H' => Le H1 H' ∧ ∃ us, H' D = some (.lst us) ∧ All2 (fun v s => Rel v s H') us (((R.take i).flatMap fun r => S.map (comb r)) ++ (S.take (j + 1)).map (comb r)), fun H' p => ⟨ys.length - (j + 1), by omega, rfl, hlt2, p⟩, fun z H3 y3 => ?_⟩
      obtain ⟨rfl, hz⟩ := hY1 j H2 z H3 (w1.yields j H2 z H3 hlt2 (hG1 H2 le2) y3)
      have hs : S[j]? = some (S[j]'(by omega)) := List.getElem?_eq_getElem _
      generalize S[j]'(by omega) = s at hs
      obtain ⟨σy, y1, y2, y3⟩ := x4 j z s H3 hz hs le2
      refine y2 _ ⟨y1, ?_⟩
      show te σy H3 _
      refine y3 _ fun v H4 l4 hv => ?_
      have e4 := l4 _ _ e2
      have hul := h2.len
      rw [List.length_append, List.length_map, List.length_take] at hul
      have lx : LeX D H4 (upd H4 D (.lst (us ++ [v]))) := Le.refl.x.upd
      refine ⟨us, e4, ?_, (le2.trans l4).upd hD, us ++ [v], upd_self, ?_⟩
      · have h1 := lenT i
        have h3 : i * S.length + S.length ≤ xs.length * ys.length := by
          rw [← Nat.succ_mul, hS]
          exact Nat.mul_le_mul_right _ hlt
        omega
      · rw [take_snoc hs, List.map_append, ← List.append_assoc]
        exact (h2.imp fun v s q => mono v s _ _ lx ⟨_, e4⟩ (mono v s _ _ l4.x ⟨_, e2⟩ q)).app (.cons (mono v _ _ _ lx ⟨_, e4⟩ hv) .nil)
    · have ej : j = ys.length := by omega
      subst ej
      refine .inl ⟨w1.stops H2 (hG1 H2 le2), le2, us, e2, ?_⟩
      rw [← hS, List.take_length] at h2
      rw [flat_take _ _ _ _ hr]
      exact h2
  · have ei : i = xs.length := by omega
    subst ei
    rw [← hR, List.take_length] at h2
    exact .inl ⟨w.stops H (hG H le), hd H us le e h2⟩
end
end Od
end
section
set_option Elab.async false
set_option linter.all false
set_option maxRecDepth 100000
set_option maxHeartbeats 2000000
set_option autoImplicit false
/-! the reaches of a map: the program's dicts -/
namespace Od
open PySem PySem.Spec PyProof.Rows L2 C8 Day Wk
abbrev s_through : Stmt := top 43
abbrev N_through : List Str := ["found", "chains", "middle", "around", "made", "a", "b", "longer"]
abbrev P_through : List Str := ["found", "chains", "middle"]
theorem sc_through : FnScope N_through P_through (C8.fnScope s_through) := fnScope_by (by decide +kernel)
abbrev s_reaches : Stmt := top 44
abbrev N_reaches : List Str := ["chains", "ways", "found", "a", "b", "one", "two", "by", "middle"]
abbrev P_reaches : List Str := ["chains", "ways"]
theorem sc_reaches : FnScope N_reaches P_reaches (C8.fnScope s_reaches) := fnScope_by (by decide +kernel)
section
variable {P : Program} {w : World} {K : PySem.W.Frag} {mg : Str → Option Value} {base : Heap}
abbrev KT2 := List (List Key × V)
def TabR (C : Addr) (H : Hp) (kvs : KT2) (D : Str → Str → Prop) (F : Str → Str → Int → Bool) : Prop := ∀ a b, D a b → ∃ p, valV kvs [.inr a, .inr b] = some (.ref p) ∧ IsDay C H p (F a b)
theorem TabR.le {C : Addr} {H H' : Hp} {kvs : KT2} {D : Str → Str → Prop} {F : Str → Str → Int → Bool} (t : TabR C H kvs D F) (l : Le H H') : TabR C H' kvs D F := fun a b h => by
  obtain ⟨p, e, d⟩ := t a b h
  exact ⟨p, e, d.le l⟩
theorem TabR.mono {C : Addr} {H : Hp} {kvs : KT2} {D D' : Str → Str → Prop} {F : Str → Str → Int → Bool} (t : TabR C H kvs D F) (i : ∀ a b, D' a b → D a b) : TabR C H kvs D' F := fun a b h => t a b (i a b h)
theorem IsDay.dT {C : Addr} {H H' : Hp} {d p : Addr} {f : Int → Bool} {kvs : KT2} (h : IsDay C H p f) (l : LeX d H H') (hd : H d = some (.dT kvs)) : IsDay C H' p f := by
  obtain ⟨F, dx, L, z, m, e⟩ := h
  exact ⟨F, dx, L, z, m, l p _ (fun c => by rw [c, hd] at e; cases e) e⟩
theorem TabR.put {C : Addr} {H : Hp} {d p : Addr} {kvs kv0 : KT2} {D : Str → Str → Prop} {F : Str → Str → Int → Bool} {a b : Str} {o : HO} (t : TabR C H kvs D F) (hd : H d = some (.dT kv0)) (hp : IsDay C H p (F a b)) : TabR C (upd H d o) (putK kvs [.inr a, .inr b] (.ref p)) (fun x y => D x y ∨ (x = a ∧ y = b)) F := fun x y h => by
  rw [valV_put]
  by_cases e : ([.inr x, .inr y] : List Key) = [.inr a, .inr b]
  · rw [if_pos e]
    injection e with e1 e2
    injection e2 with e2
    cases e1
    cases e2
    exact ⟨p, rfl, hp.dT (Le.refl.x.upd) hd⟩
  · rw [if_neg e]
    rcases h with h | ⟨rfl, rfl⟩
    · obtain ⟨q, e1, e2⟩ := t x y h
      exact ⟨q, e1, e2.dT (Le.refl.x.upd) hd⟩
    · exact absurd rfl e
theorem TabR.put2 {C : Addr} {H : Hp} {d p : Addr} {kvs kv0 : KT2} {D : Str → Str → Prop} {F F' : Str → Str → Int → Bool} {a b : Str} {o : HO} (t : TabR C H kvs D F) (hd : H d = some (.dT kv0)) (hp : IsDay C H p (F' a b)) (hF : ∀ x y, ¬ (x = a ∧ y = b) → D x y → ∀ n, F x y n = F' x y n) : TabR C (upd H d o) (putK kvs [.inr a, .inr b] (.ref p)) D F' := fun x y h => by
  rw [valV_put]
  by_cases e : ([.inr x, .inr y] : List Key) = [.inr a, .inr b]
  · rw [if_pos e]
    injection e with e1 e2
    injection e2 with e2
    cases e1
    cases e2
    exact ⟨p, rfl, hp.dT (Le.refl.x.upd) hd⟩
  · rw [if_neg e]
    obtain ⟨q, e1, e2⟩ := t x y h
    exact ⟨q, e1, (e2.dT (Le.refl.x.upd) hd).to (hF x y (fun ⟨h1, h2⟩ => e (by rw [h1, h2])) h)⟩
theorem put_len {kvs : KT2} {k : List Key} {v : V} : (putK kvs k v).length ≤ kvs.length + 1 := by
  unfold putK
  split
  · rw [List.length_map]; omega
  · rw [List.length_append]; exact Nat.le_refl _
theorem dget2 {H : Hp} {d t : Addr} {a b : Str} {kvs : KT2} {v : V} (hd : H d = some (.dT kvs)) (ht : H t = some (.tup [.str a, .str b])) (e : valV kvs [.inr a, .inr b] = some v) : DGet H d (.ref t) (some v) := by
  rw [← e]
  exact DGet.t (k := [.inr a, .inr b]) hd ht
def sp_through (C : Addr) : Sp := fun vs H Q _ => ∃ (d q : Addr) (m : Str) (kvs : KT2) (r : Row) (E : Ways) (A : List Str) (P B S : Int), vs = [.ref d, .ref q, .str m] ∧ H d = some (.dT kvs) ∧ IsRow H q r ∧ m ∈ r ∧ r.length ≤ 6 ∧ Good E P B S ∧ TabR C H kvs (fun a b => a ∈ r ∧ b ∈ r) (fI E A) ∧
  ∀ d' kvs' H', Le H H' → H d' = none → H' d' = some (.dT kvs') → kvs'.length ≤ 36 → TabR C H' kvs' (fun a b => a ∈ r ∧ b ∈ r) (fI E (m :: A)) → Q (.ref d') H'
theorem c_through {C : Addr} (T : Txt K mg) (D : DSC K mg C) (F : DefOf K mg "through" s_through P_through) (Q_DaySet_sums : Met P w K mg base 10 C "sums" (sp_star C (fun _ => True) 1) []) (Q_DaySet___add__ : Met P w K mg base 8 C "__add__" (sp_sum C) []) (Q_DaySet___or__ : Met P w K mg base 7 C "__or__" (sp_bin C (fun a b => a || b)) []) : Cal P w K mg base 11 "through" (sp_through C) [] := by
  obtain ⟨f, fd, F, B⟩ := F
  refine cal0 F B .nil sc_through (fun vs H Q E h => by obtain ⟨_, _, _, _, _, _, _, _, _, _, rfl, _⟩ := h; rfl) (fun cdv A outer s H vs Q E hr h => ?_)
  obtain ⟨d, q, m, kvs, r, E, A, Pd, Bd, S, rfl, hd, hq, hm, hl, g, tb, qq⟩ := h
  have nd := sc_through.nd
  refine ⟨_, (pss_cons (ps_set (i := 3) nd rfl (Or.inl rfl) (pe_mt0 Q_DaySet_sums hr (by decide) (pe_dget (Room.u1 hr) (pv 0) (pe_tup (pa_cons (pv 2) (pa_cons (pv 2) pa_nil))) (fun _ _ => rfl))))
      (pss_cons (ps_set (i := 4) nd rfl (Or.inl rfl) pe_dnewT)
      (C8.pss_cut (ps_for PassesOwn.never rfl (pi_list (pv 1)) (pg_name (i := 5) nd rfl (Or.inl rfl)) (pss_one (ps_for PassesOwn.never rfl (pi_list (pv 1)) (pg_name (i := 6) nd rfl (Or.inl rfl)) (pss_cons (ps_set (i := 7) nd rfl (Or.inl rfl) (pe_op (op_ownM D.sf Q_DaySet___add__ hr (by decide)) (pe_op (op_ownM D.sf Q_DaySet___add__ hr (by decide)) (pe_dget (Room.u1 hr) (pv 0) (pe_tup (pa_cons (pv 5) (pa_cons (pv 2) pa_nil))) (fun _ _ => rfl)) (pv 3)) (pe_dget (Room.u1 hr) (pv 0) (pe_tup (pa_cons (pv 2) (pa_cons (pv 6) pa_nil))) (fun _ _ => rfl))))
      (pss_one (ps_dput (Room.u1 hr) (pv 4) (pe_tup (pa_cons (pv 5) (pa_cons (pv 6) pa_nil))) (pe_op (op_ownM D.sf Q_DaySet___or__ hr (by decide)) (pe_dget (Room.u1 hr) (pv 0) (pe_tup (pa_cons (pv 5) (pa_cons (pv 6) pa_nil))) (fun _ _ => rfl)) (pv 7)) rfl))))))
      (pss_one (ps_ret (pv 4)))))), ?_⟩
  obtain ⟨pm, em, dm⟩ := tb m m ⟨hm, hm⟩
  refine ⟨_, rfl, _, rfl, _, rfl, le_szl 2 (by decide), fun t nt => ?_⟩
  have l1 := Le.new (o := .tup [.str m, .str m]) nt
  have dm1 := dm.le l1
  obtain ⟨Fm, dx, Lm, zm, mm, hpm⟩ := id dm1
  have okm := g.ok A m m
  have hb1 := g.b1
  have hb0 := okm.b0
  have hp0 := okm.c0
  refine ⟨d, _, rfl, dget2 (l1 _ _ hd) upd_self em, _, _, _, rfl, hpm, by rfl, pm, _, Pd, Bd, S, rfl, dm1, okm, trivial, by omega, g.p1, g.s0, g.s1, ⟨g.up A m m, g.dn A m m⟩, ?_, fun pa H2 ha st l2 da sta _ _ _ na => ?_⟩
  · have := g.f1
    show S * (Bd + 1 + S + S * Pd) ≤ 900000
    exact this
  have oka : Ok ha Pd (Bd + 1) := g.star (fun n => sta n)
  have l02 := l1.trans l2
  refine fun dm nm => ?_
  have l3 := Le.new (o := .dT []) nm
  have l03 := l02.trans l3
  have hdm : H dm = none := l02.none nm
  have ndm : ∀ {x : Addr} {o : HO}, H x = some o → x ≠ dm := fun h e => by
    rw [e, hdm] at h
    cases h
  have npm : pa ≠ dm := fun e => by
    obtain ⟨_, _, _, _, _, h⟩ := da
    rw [e, nm] at h
    cases h
  have da3 := da.le l3
  have e3 : upd H2 dm (.dT []) dm = some (.dT []) := upd_self
  have eq1 := l03 _ _ hq
  generalize upd H2 dm (.dT []) = H3 at l3 l03 da3 e3 eq1 ⊢
  -- what stays while the new dict is written
  let St : Hp → Prop := fun H' => ∀ a o, a ≠ dm → H3 a = some o → H' a = some o
  have stP : ∀ {H'}, St H' → Le H H' := fun st x o h => st x o (ndm h) (l03 x o h)
  have nda : ∀ {H' : Hp}, St H' → IsDay C H' pa ha := fun {H'} st => by
    obtain ⟨F1, dx1, L1, z1, m1, h1⟩ := da3
    exact ⟨F1, dx1, L1, z1, m1, st _ _ npm h1⟩
  refine ⟨fun σ' H' => St H' ∧ ∃ kv' x5 x6 x7, H' dm = some (.dT kv') ∧ kv'.length ≤ r.length * r.length ∧ TabR C H' kv' (fun a b => a ∈ r ∧ b ∈ r) (fI E (m :: A)) ∧ σ' = [some (.ref d), some (.ref q), some (.str m), some (.ref pa), some (.ref dm), x5, x6, x7], ?_, ?_⟩
  rotate_left
  · rintro σ' H' ⟨st, kv', x5, x6, x7, h1, h2, h3, rfl⟩
    have h36 : r.length * r.length ≤ 36 := Nat.le_trans (Nat.mul_le_mul hl hl) (by decide)
    exact ⟨_, rfl, qq dm kv' H' (stP st) hdm h1 (by omega) h3⟩
  refine ⟨_, rfl, q, rfl, ⟨_, .of eq1⟩, ?_⟩
  refine for_list (xs := r.map V.str) (fun i σ' H' => St H' ∧ ∃ kv' x5 x6 x7, H' dm = some (.dT kv') ∧ kv'.length ≤ i * r.length ∧ TabR C H' kv' (fun a b => a ∈ r.take i ∧ b ∈ r) (fI E (m :: A)) ∧ σ' = [some (.ref d), some (.ref q), some (.str m), some (.ref pa), some (.ref dm), x5, x6, x7]) ?_ ?_ ?_ ?_
  · exact ⟨fun _ _ _ h => h, [], none, none, none, e3, Nat.zero_le _, fun a b h => (by simp at h), rfl⟩
  · rintro i σ' H' _ ⟨st, _⟩
    exact .of (st _ _ (ndm hq) eq1)
  · rintro i x σ' Ha hx ⟨st, kv', x5, x6, x7, h1, h2, h3, rfl⟩
    rw [List.getElem?_map, Option.map_eq_some_iff] at hx
    obtain ⟨a, hai, rfl⟩ := hx
    have haR : a ∈ r := List.mem_of_getElem? hai
    refine ⟨_, rfl, q, rfl, ⟨_, .of (st _ _ (ndm hq) eq1)⟩, ?_⟩
    refine for_list (xs := r.map V.str) (fun j σ' H' => St H' ∧ ∃ kv' x6 x7, H' dm = some (.dT kv') ∧ kv'.length ≤ i * r.length + j ∧ TabR C H' kv' (fun x y => (x ∈ r.take i ∧ y ∈ r) ∨ (x = a ∧ y ∈ r.take j)) (fI E (m :: A)) ∧ σ' = [some (.ref d), some (.ref q), some (.str m), some (.ref pa), some (.ref dm), some (.str a), x6, x7]) ?_ ?_ ?_ ?_
    · exact ⟨st, kv', x6, x7, h1, h2, fun x y h => h3 x y (h.elim id fun h => (by simp at h)), rfl⟩
    · rintro j σ' H' _ ⟨st, _⟩
      exact .of (st _ _ (ndm hq) eq1)
    · rintro j x σ' Hb hx ⟨st, kv1, x6, x7, g1, g2, g3, rfl⟩
      rw [List.getElem?_map, Option.map_eq_some_iff] at hx
      obtain ⟨b, hbj, rfl⟩ := hx
      have hbR : b ∈ r := List.mem_of_getElem? hbj
      have lH := stP st
      obtain ⟨p1, v1, d1⟩ := tb a m ⟨haR, hm⟩
      obtain ⟨p2, v2, d2⟩ := tb m b ⟨hm, hbR⟩
      obtain ⟨p3, v3, d3⟩ := tb a b ⟨haR, hbR⟩
      have o1 := (g.ok A a m).mono (b' := Bd + 1) (by omega) (by omega)
      refine ⟨_, rfl, _, rfl, _, rfl, le_szl 2 (by decide), fun t1 nt1 => ?_⟩
      have k1 := Le.new (o := .tup [.str a, .str m]) nt1
      have L1 := lH.trans k1
      obtain ⟨_, _, _, _, _, i1⟩ := id (d1.le L1)
      have dax := (nda st).le k1
      obtain ⟨_, _, _, _, _, ia⟩ := id dax
      refine ⟨d, _, rfl, dget2 (L1 _ _ hd) upd_self v1, _, rfl, _, _, _, _, _, _, rfl, rfl, i1, ia, p1, pa, _, _, Pd, Bd + 1, rfl, d1.le L1, dax, o1, oka, g.p1, by omega, fun p4 H4 f4 k2 d4 s4 n4 => ?_⟩
      have o4 := o1.sum oka s4 (by omega)
      have L2' := L1.trans k2
      refine ⟨_, rfl, _, rfl, _, rfl, le_szl 2 (by decide), fun t2 nt2 => ?_⟩
      have k3 := Le.new (o := .tup [.str m, .str b]) nt2
      have L3 := L2'.trans k3
      obtain ⟨_, _, _, _, _, i4⟩ := id (d4.le k3)
      obtain ⟨_, _, _, _, _, i2⟩ := id (d2.le L3)
      have o2 := (g.ok A m b).mono (b' := 2 * (Bd + 1) + Pd) (by omega) (by omega)
      refine ⟨d, _, rfl, dget2 (L3 _ _ hd) upd_self v2, _, _, _, _, _, _, rfl, rfl, i4, i2, p4, p2, _, _, Pd, 2 * (Bd + 1) + Pd, rfl, d4.le k3, d2.le L3, o4, o2, g.p1, by omega, fun p5 H5 f5 k4 d5 s5 n5 => ?_⟩
      have o5 := o4.sum o2 s5 (by omega)
      have L4 := L3.trans k4
      refine ⟨_, rfl, _, rfl, _, rfl, le_szl 2 (by decide), fun t3 nt3 => ?_⟩
      have k5 := Le.new (o := .tup [.str a, .str b]) nt3
      have L5 := L4.trans k5
      obtain ⟨_, _, _, _, _, i5⟩ := id (d5.le k5)
      obtain ⟨_, _, _, _, _, i3⟩ := id (d3.le L5)
      have o3 := (g.ok A a b).mono (b' := 2 * (2 * (Bd + 1) + Pd) + Pd) (by omega) (by omega)
      refine ⟨d, _, rfl, dget2 (L5 _ _ hd) upd_self v3, _, rfl, _, _, _, _, _, _, rfl, rfl, i3, i5, p3, p5, _, _, Pd, 2 * (2 * (Bd + 1) + Pd) + Pd, rfl, d3.le L5, d5.le k5, o3, o5, fun p6 H6 k6 d6 n6 => ?_⟩
      have kk : Le Hb H6 := ((((k1.trans k2).trans k3).trans k4).trans k5).trans k6
      refine ⟨_, rfl, _, rfl, _, rfl, le_szl 2 (by decide), fun t4 nt4 => ?_⟩
      have k7 := Le.new (o := .tup [.str a, .str b]) nt4
      have k8 := kk.trans k7
      have e7 := k8 _ _ g1
      have d7 := (d6.le k7).to (g := fI E (m :: A) a b) fun n => by
        rw [Bool.eq_iff_iff, Bool.or_eq_true, s5 n, fI_step]
        constructor
        · rintro (h | ⟨x, y, h1, h2, rfl⟩)
          · exact .inl h
          · obtain ⟨u, v, h3, h4, rfl⟩ := (s4 x).mp h1
            exact .inr ⟨u, v, y, h3, (sta v).mp h4, h2, rfl⟩
        · rintro (h | ⟨x, s, y, h1, h2, h3, rfl⟩)
          · exact .inl h
          · exact .inr ⟨x + s, y, (s4 _).mpr ⟨x, s, h1, (sta s).mpr h2, rfl⟩, h3, rfl⟩
      have t7 := (g3.le k8).put (o := .dT (putK kv1 [.inr a, .inr b] (.ref p6))) e7 d7
      have et4 : upd H6 t4 (.tup [.str a, .str b]) t4 = some (.tup [.str a, .str b]) := upd_self
      generalize upd H6 t4 (.tup [.str a, .str b]) = H7 at k7 k8 e7 d7 t7 et4 ⊢
      have hlen : i * r.length + r.length ≤ 36 := by
        have h1 : i + 1 ≤ r.length := (List.getElem?_eq_some_iff.mp hai).1
        have h2 : (i + 1) * r.length ≤ 6 * 6 := Nat.mul_le_mul (by omega) hl
        rw [Nat.add_mul, Nat.one_mul] at h2
        omega
      have hj : j + 1 ≤ r.length := (List.getElem?_eq_some_iff.mp hbj).1
      refine ⟨dm, _, rfl, DPut.t (k := [.inr a, .inr b]) e7 et4 (le_szl' (by omega)), ?_⟩
      have := put_len (kvs := kv1) (k := [.inr a, .inr b]) (v := .ref p6)
      refine ⟨fun x o hx h => by rw [upd_ne hx]; exact k8 _ _ (st x o hx h), _, _, _, upd_self, by omega, t7.mono fun x y h => ?_, rfl⟩
      rcases h with h | ⟨rfl, h⟩
      · exact .inl (.inl h)
      · rw [List.take_add_one, hbj] at h
        rcases List.mem_append.mp h with h | h
        · exact .inl (.inr ⟨rfl, h⟩)
        · exact .inr ⟨rfl, List.mem_singleton.mp h⟩
    · rintro σ' H' ⟨st, kv1, x6, x7, g1, g2, g3, rfl⟩
      rw [List.length_map] at g2 g3
      refine ⟨st, kv1, _, _, _, g1, by rw [Nat.add_mul, Nat.one_mul]; exact g2, g3.mono fun x y h => ?_, rfl⟩
      obtain ⟨h, hy⟩ := h
      rw [List.take_add_one, hai] at h
      rcases List.mem_append.mp h with h | h
      · exact .inl ⟨h, hy⟩
      · exact .inr ⟨List.mem_singleton.mp h, by rw [List.take_length]; exact hy⟩
  · rintro σ' H' ⟨st, kv', x5, x6, x7, h1, h2, h3, rfl⟩
    rw [List.length_map] at h2 h3
    rw [List.take_length] at h3
    exact ⟨st, kv', _, _, _, h1, h2, h3, rfl⟩
/-! ### all of them -/
def WayAt (H : Hp) (v : V) (x : Str × Str × Int) : Prop := ∃ t : Addr, v = .ref t ∧ H t = some (.tup [.str x.1, .str x.2.1, .int x.2.2])
def WaysAt (H : Hp) (q : Addr) (ws : Ways) : Prop := ∃ us, H q = some (.lst us) ∧ All2 (WayAt H) us ws
theorem WayAt.le {H H' : Hp} {v : V} {x : Str × Str × Int} (h : WayAt H v x) (l : Le H H') : WayAt H' v x := by
  obtain ⟨t, e, h⟩ := h
  exact ⟨t, e, l _ _ h⟩
theorem WaysAt.le {H H' : Hp} {q : Addr} {ws : Ways} (h : WaysAt H q ws) (l : Le H H') : WaysAt H' q ws := by
  obtain ⟨us, h1, h2⟩ := h
  exact ⟨us, l _ _ h1, h2.imp fun v x h => h.le l⟩
theorem ways_ds (E : Ways) (a b : Str) : ∃ ds : List Int, ((List.range E.length).filterMap fun k => (E[k]?).bind fun e => if e.1 = a ∧ e.2.1 = b then some (V.int e.2.2) else none) = ds.map V.int ∧ (∀ n, n ∈ ds ↔ ∃ e ∈ E, e.1 = a ∧ e.2.1 = b ∧ e.2.2 = n) ∧ ds.length ≤ E.length := by
  refine ⟨E.filterMap fun e => if e.1 = a ∧ e.2.1 = b then some e.2.2 else none, ?_, fun n => ?_, List.length_filterMap_le _ _⟩
  · have h : E = (List.range E.length).filterMap fun k => E[k]? := by
      have : ∀ l : Ways, l = (List.range l.length).filterMap fun k => l[k]? := fun l => by
        induction l with
        | nil => rfl
        | cons x l ih =>
          rw [List.length_cons, List.range_succ_eq_map, List.filterMap_cons, List.filterMap_map]
          show x :: l = x :: (List.range l.length).filterMap fun k => (x :: l)[k + 1]?
          congr 1
      exact this E
    conv => rhs; rw [h]
    rw [List.filterMap_filterMap, List.map_filterMap]
    congr 1
    funext k
    cases e : E[k]? with
    | none => rfl
    | some x =>
      show (if x.1 = a ∧ x.2.1 = b then some (V.int x.2.2) else none) = Option.map V.int (if x.1 = a ∧ x.2.1 = b then some x.2.2 else none)
      split <;> rfl
  · rw [List.mem_filterMap]
    constructor
    · rintro ⟨e, h1, h2⟩
      by_cases c : e.1 = a ∧ e.2.1 = b
      · rw [if_pos c] at h2
        exact ⟨e, h1, c.1, c.2, Option.some.inj h2⟩
      · rw [if_neg c] at h2; cases h2
    · rintro ⟨e, h1, h2, h3, h4⟩
      exact ⟨e, h1, by rw [if_pos ⟨h2, h3⟩, h4]⟩
def sp_reaches (C : Addr) : Sp := fun vs H Q _ => ∃ (q u : Addr) (r : Row) (E : Ways) (P B S : Int), vs = [.ref q, .ref u] ∧ IsRow H q r ∧ r.length ≤ 6 ∧ WaysAt H u E ∧ E.length ≤ 12 ∧ (∀ e ∈ E, e.2.1 ∈ r) ∧ (∀ e ∈ E, -1000 ≤ e.2.2 ∧ e.2.2 ≤ 1000) ∧ Good E P B S ∧
  ∀ d' kvs' H', Le H H' → H d' = none → H' d' = some (.dT kvs') → TabR C H' kvs' (fun a b => a ∈ r ∧ b ∈ r) (fR E) → Q (.ref d') H'
theorem c_reaches {C : Addr} (T : Txt K mg) (D : DSC K mg C) (F : DefOf K mg "reaches" s_reaches P_reaches) (C_through : Cal P w K mg base 11 "through" (sp_through C) []) (K_DaySet_of : CMt P w K mg base 6 C "of" (sp_of C)) (Q_DaySet___or__ : Met P w K mg base 7 C "__or__" (sp_bin C (fun a b => a || b)) []) : Cal P w K mg base 12 "reaches" (sp_reaches C) [] := by
  obtain ⟨f, fd, F, B⟩ := F
  refine cal0 F B .nil sc_reaches (fun vs H Q E h => by obtain ⟨_, _, _, _, _, _, _, rfl, _⟩ := h; rfl) (fun cdv A outer s H vs Q E hr h => ?_)
  obtain ⟨q, u, r, E, Pd, Bd, S, rfl, hq, hl, hu, hE, hin, hby, g, qq⟩ := h
  have nd := sc_reaches.nd
  refine ⟨_, (pss_cons (ps_set (i := 2) nd rfl (Or.inl rfl) pe_dnewT)
      (C8.pss_cut (ps_for PassesOwn.never rfl (pi_list (pv 0)) (pg_name (i := 3) nd rfl (Or.inr rfl)) (pss_one (ps_for PassesOwn.never rfl (pi_list (pv 0)) (pg_name (i := 4) nd rfl (Or.inr rfl)) (pss_one (ps_dput (Room.u1 hr) (pv 2) (pe_tup (pa_cons (pv 3) (pa_cons (pv 4) pa_nil))) (pe_cm K_DaySet_of hr (by decide) (pe_gc rfl D.g) (pa_cons (pe_lc (own := [("one", 5), ("two", 6), ("by", 7)]) (g := (gTup K 3 (gCons (gName 5) (gCons (gName 6) (gCons (gName 7) gNil))))) (by rfl) nd (pi_list (pv 1)) (blkOk_by (own := [("one", 5), ("two", 6), ("by", 7)]) (N := N_reaches) (sc := C8.fnScope s_reaches) (by decide +kernel)) (fun _ _ _ _ _ => (pg_tupK (K := K) rfl rfl (pgs_cons (pg_name (i := 5) nd rfl (Or.inl rfl) (Or.inr rfl)) (pgs_cons (pg_name (i := 6) nd rfl (Or.inl rfl) (Or.inr rfl)) (pgs_cons (pg_name (i := 7) nd rfl (Or.inl rfl) (Or.inr rfl)) pgs_nil))))) (fun _ _ _ _ _ => pts_one (PW.pt (pw_and (pt_cmpR op_eq (pv 5) (pv 3) (nomark _)) (pw_and1 (pt_cmpR op_eq (pv 6) (pv 4) (nomark _)))))) (fun _ _ _ _ _ => (pv 7))) pa_nil)) rfl)))))
      (C8.pss_cut (ps_for PassesOwn.never rfl (pi_list (pv 0)) (pg_name (i := 8) nd rfl (Or.inl rfl)) (pss_one (ps_set (i := 2) nd rfl (Or.inl rfl) (pe_c C_through hr (by decide) rfl (pa_cons (pv 2) (pa_cons (pv 0) (pa_cons (pv 8) pa_nil)))))))
      (C8.pss_cut (ps_for PassesOwn.never rfl (pi_list (pv 0)) (pg_name (i := 3) nd rfl (Or.inr rfl)) (pss_one (ps_dput (Room.u1 hr) (pv 2) (pe_tup (pa_cons (pv 3) (pa_cons (pv 3) pa_nil))) (pe_op (op_ownM D.sf Q_DaySet___or__ hr (by decide)) (pe_dget (Room.u1 hr) (pv 2) (pe_tup (pa_cons (pv 3) (pa_cons (pv 3) pa_nil))) (fun _ _ => rfl)) (pe_cm K_DaySet_of hr (by decide) (pe_gc rfl D.g) (pa_cons (pe_lst (pa_cons pe_int pa_nil)) pa_nil))) rfl)))
      (pss_one (ps_ret (pv 2))))))), ?_⟩
  have hb1 := g.b1
  have hb0 := (g.ok [] "" "").b0
  have hp0 := (g.ok [] "" "").c0
  refine fun dm nm => ?_
  have l3 := Le.new (o := .dT []) nm
  have ndm : ∀ {x : Addr} {o : HO}, H x = some o → x ≠ dm := fun h e => by
    rw [e, nm] at h
    cases h
  have e3 : upd H dm (.dT []) dm = some (.dT []) := upd_self
  have eq1 := l3 _ _ hq
  have hu3 := hu.le l3
  generalize upd H dm (.dT []) = H3 at l3 e3 eq1 hu3 ⊢
  let St : Hp → Prop := fun H' => ∀ a o, a ≠ dm → H3 a = some o → H' a = some o
  have stP : ∀ {H'}, St H' → Le H H' := fun st x o h => st x o (ndm h) (l3 x o h)
  obtain ⟨us, hul, hus⟩ := id hu3
  have hlen := hus.len
  refine ⟨fun σ' H' => St H' ∧ ∃ kv' x3 x4 x5 x6 x7 x8, H' dm = some (.dT kv') ∧ kv'.length ≤ r.length * r.length ∧ TabR C H' kv' (fun a b => a ∈ r ∧ b ∈ r) (fI E []) ∧ σ' = [some (.ref q), some (.ref u), some (.ref dm), x3, x4, x5, x6, x7, x8], ?_, ?_⟩
  · refine ⟨_, rfl, q, rfl, ⟨_, .of eq1⟩, ?_⟩
    refine for_list (xs := r.map V.str) (fun i σ' H' => St H' ∧ ∃ kv' x3 x4 x5 x6 x7 x8, H' dm = some (.dT kv') ∧ kv'.length ≤ i * r.length ∧ TabR C H' kv' (fun a b => a ∈ r.take i ∧ b ∈ r) (fI E []) ∧ σ' = [some (.ref q), some (.ref u), some (.ref dm), x3, x4, x5, x6, x7, x8]) ?_ ?_ ?_ ?_
    · exact ⟨fun _ _ _ h => h, [], none, none, none, none, none, none, e3, Nat.zero_le _, fun a b h => (by simp at h), rfl⟩
    · rintro i σ' H' _ ⟨st, _⟩
      exact .of (st _ _ (ndm hq) eq1)
    · rintro i x σ' Ha hx ⟨st, kv', x3, x4, x5, x6, x7, x8, h1, h2, h3, rfl⟩
      rw [List.getElem?_map, Option.map_eq_some_iff] at hx
      obtain ⟨a, hai, rfl⟩ := hx
      have haR : a ∈ r := List.mem_of_getElem? hai
      refine ⟨_, rfl, q, rfl, ⟨_, .of (st _ _ (ndm hq) eq1)⟩, ?_⟩
      refine for_list (xs := r.map V.str) (fun j σ' H' => St H' ∧ ∃ kv' x4 x5 x6 x7 x8, H' dm = some (.dT kv') ∧ kv'.length ≤ i * r.length + j ∧ TabR C H' kv' (fun x y => (x ∈ r.take i ∧ y ∈ r) ∨ (x = a ∧ y ∈ r.take j)) (fI E []) ∧ σ' = [some (.ref q), some (.ref u), some (.ref dm), some (.str a), x4, x5, x6, x7, x8]) ?_ ?_ ?_ ?_
      · exact ⟨st, kv', x4, x5, x6, x7, x8, h1, h2, fun x y h => h3 x y (h.elim id fun h => (by simp at h)), rfl⟩
      · rintro j σ' H' _ ⟨st, _⟩
        exact .of (st _ _ (ndm hq) eq1)
      · rintro j x σ' Hb hx ⟨st, kv1, x4, x5, x6, x7, x8, g1, g2, g3, rfl⟩
        rw [List.getElem?_map, Option.map_eq_some_iff] at hx
        obtain ⟨b, hbj, rfl⟩ := hx
        have hbR : b ∈ r := List.mem_of_getElem? hbj
        have nul : u ≠ dm := by
          obtain ⟨us', h, _⟩ := hu
          exact ndm h
        have hulb := st _ _ nul hul
        have husb : All2 (WayAt Hb) us E := hus.imp fun v e ⟨t, e1, h⟩ => ⟨t, e1, st _ _ (fun z => by rw [z, e3] at h; cases h) h⟩
        refine ⟨rfl, _, rfl, u, rfl, ⟨_, .of hulb⟩, fun D1 nD1 => ?_⟩
        refine lc_pure (walk_list (xs := us)) nD1 (le_szl _ (by omega)) (fun H le => .of (le _ _ hulb)) yat_le (fun k => (E[k]?).bind fun e => if e.1 = a ∧ e.2.1 = b then some (.int e.2.2) else none) ?_ ?_
        · rintro k x Hx Hy hk le ⟨rfl, hx⟩ N hN
          obtain ⟨e, he, t, rfl, ht⟩ := husb.get hx
          refine ⟨t, _, rfl, .of (le _ _ ht), rfl, _, _, rfl, _, _, rfl, _, _, rfl, rfl, ⟨rfl, ?_⟩⟩
          have hN := hN Hy .refl
          simp only [he, Option.bind_some] at hN
          refine ⟨_, rfl, _, rfl, rfl, _, rfl, ite2 (fun c1 => ?_) (fun c1 => ?_)⟩
          · have c1 : e.1 = a := by
              have c : V.str e.1 = V.str a := of_decide_eq_true c1
              injection c
            refine ⟨_, rfl, _, rfl, rfl, _, rfl, ite2 (fun c2 => ?_) (fun c2 => ?_)⟩
            · have c2 : e.2.1 = b := by
                have c : V.str e.2.1 = V.str b := of_decide_eq_true c2
                injection c
              rw [if_pos ⟨c1, c2⟩] at hN
              exact ⟨_, rfl, hN⟩
            · rw [if_neg (fun z => c2 (decide_eq_true (by rw [z.2])))] at hN
              exact hN
          · rw [if_neg (fun z => c1 (decide_eq_true (by rw [z.1])))] at hN
            exact ite2 (fun c => absurd c (by decide)) fun _ => hN
        intro H6 l6 eD
        obtain ⟨ds, e_ds, m_ds, len_ds⟩ := ways_ds E a b
        rw [hlen, e_ds] at eD
        have hd0 : ∀ n, fI E [] a b n = decide (n ∈ ds) := fun n => by
          rw [Bool.eq_iff_iff, fI_iff, WI.split, decide_eq_true_iff, m_ds]
          constructor
          · rintro (⟨e, h1, h2, h3, h4⟩ | ⟨e, _, f, _, _, h4, _⟩)
            · exact ⟨e, h1, h2, h3, h4⟩
            · cases h4
          · rintro ⟨e, h1, h2, h3, h4⟩
            exact .inl ⟨e, h1, h2, h3, h4⟩
        refine ⟨D1, ds, rfl, eD, by omega, fun n hn => ?_, fun p6 H7 l7 d7 n7 => ?_⟩
        · obtain ⟨e, h1, _, _, rfl⟩ := (m_ds n).mp hn
          have := hby e h1
          omega
        have d8 := d7.to (g := fI E [] a b) fun n => (hd0 n).symm
        have k8 := l6.trans l7
        refine ⟨_, rfl, _, rfl, _, rfl, le_szl 2 (by decide), fun t4 nt4 => ?_⟩
        have k7 := Le.new (o := .tup [.str a, .str b]) nt4
        have k9 := k8.trans k7
        have e7 := k9 _ _ g1
        have t7 := (g3.le k9).put (o := .dT (putK kv1 [.inr a, .inr b] (.ref p6))) e7 (d8.le k7)
        have et4 : upd H7 t4 (.tup [.str a, .str b]) t4 = some (.tup [.str a, .str b]) := upd_self
        generalize upd H7 t4 (.tup [.str a, .str b]) = H8 at k7 k9 e7 t7 et4 ⊢
        have hlen : i * r.length + r.length ≤ 36 := by
          have h1 : i + 1 ≤ r.length := (List.getElem?_eq_some_iff.mp hai).1
          have h2 : (i + 1) * r.length ≤ 6 * 6 := Nat.mul_le_mul (by omega) hl
          rw [Nat.add_mul, Nat.one_mul] at h2
          omega
        have hj : j + 1 ≤ r.length := (List.getElem?_eq_some_iff.mp hbj).1
        refine ⟨dm, _, rfl, DPut.t (k := [.inr a, .inr b]) e7 et4 (le_szl' (by omega)), ?_⟩
        have := put_len (kvs := kv1) (k := [.inr a, .inr b]) (v := .ref p6)
        refine ⟨fun x o hx h => by rw [upd_ne hx]; exact k9 _ _ (st x o hx h), _, _, _, _, _, _, upd_self, by omega, t7.mono fun x y h => ?_, rfl⟩
        rcases h with h | ⟨rfl, h⟩
        · exact .inl (.inl h)
        · rw [List.take_add_one, hbj] at h
          rcases List.mem_append.mp h with h | h
          · exact .inl (.inr ⟨rfl, h⟩)
          · exact .inr ⟨rfl, List.mem_singleton.mp h⟩
      · rintro σ' H' ⟨st, kv1, x4, x5, x6, x7, x8, g1, g2, g3, rfl⟩
        rw [List.length_map] at g2 g3
        refine ⟨st, kv1, _, _, _, _, _, _, g1, by rw [Nat.add_mul, Nat.one_mul]; exact g2, g3.mono fun x y h => ?_, rfl⟩
        obtain ⟨h, hy⟩ := h
        rw [List.take_add_one, hai] at h
        rcases List.mem_append.mp h with h | h
        · exact .inl ⟨h, hy⟩
        · exact .inr ⟨List.mem_singleton.mp h, by rw [List.take_length]; exact hy⟩
    · rintro σ' H' ⟨st, kv', x3, x4, x5, x6, x7, x8, h1, h2, h3, rfl⟩
      rw [List.length_map] at h2 h3
      rw [List.take_length] at h3
      exact ⟨st, kv', _, _, _, _, _, _, h1, h2, h3, rfl⟩
  rintro σ1 H4 ⟨st, kv1, x3, x4, x5, x6, x7, x8, h1, h10, h2, rfl⟩
  have l4 := stP st
  have hq4 := l4 _ _ hq
  clear_value St
  clear st stP
  refine ⟨fun σ' H' => Le H H' ∧ ∃ d' kv' x3 x4 x5 x6 x7 x8, H d' = none ∧ H' d' = some (.dT kv') ∧ kv'.length ≤ 36 ∧ TabR C H' kv' (fun a b => a ∈ r ∧ b ∈ r) (fI E r.reverse) ∧ σ' = [some (.ref q), some (.ref u), some (.ref d'), x3, x4, x5, x6, x7, x8], ?_, ?_⟩
  · have h36 : r.length * r.length ≤ 36 := Nat.le_trans (Nat.mul_le_mul hl hl) (by decide)
    refine ⟨_, rfl, q, rfl, ⟨_, .of hq4⟩, ?_⟩
    refine for_list (xs := r.map V.str) (fun i σ' H' => Le H4 H' ∧ ∃ d' kv' x3 x4 x5 x6 x7 x8, H d' = none ∧ H' d' = some (.dT kv') ∧ kv'.length ≤ 36 ∧ TabR C H' kv' (fun a b => a ∈ r ∧ b ∈ r) (fI E (r.take i).reverse) ∧ σ' = [some (.ref q), some (.ref u), some (.ref d'), x3, x4, x5, x6, x7, x8]) ?_ ?_ ?_ ?_
    · exact ⟨.refl, dm, kv1, x3, x4, x5, x6, x7, x8, nm, h1, by omega, h2, rfl⟩
    · rintro i σ' H' _ ⟨le, _⟩
      exact .of (le _ _ hq4)
    · rintro i x σ' Ha hx ⟨le, d', kv', x3, x4, x5, x6, x7, x8, nd', e', len', t', rfl⟩
      rw [List.getElem?_map, Option.map_eq_some_iff] at hx
      obtain ⟨m, hmi, rfl⟩ := hx
      refine ⟨_, rfl, _, rfl, _, rfl, d', q, m, kv', r, E, (r.take i).reverse, Pd, Bd, S, rfl, e', le _ _ hq4, List.mem_of_getElem? hmi, hl, g, t', fun d2 kv2 H6 l6 n6 e6 len6 t6 => ?_⟩
      refine ⟨le.trans l6, d2, kv2, _, _, _, _, _, _, (l4.trans le).none n6, e6, len6, ?_, rfl⟩
      rw [List.take_add_one, hmi]
      show TabR C H6 kv2 _ (fI E ((r.take i) ++ [m]).reverse)
      rw [List.reverse_append]
      exact t6
    · rintro σ' H' ⟨le, d', kv', x3, x4, x5, x6, x7, x8, nd', e', len', t', rfl⟩
      rw [List.length_map, List.take_length] at t'
      exact ⟨l4.trans le, d', kv', _, _, _, _, _, _, nd', e', len', t', rfl⟩
  rintro σ2 H5 ⟨l5, d', kv2, y3, y4, y5, y6, y7, y8, nd', e5, len5, t5, rfl⟩
  have hq5 := l5 _ _ hq
  have hAll : ∀ e ∈ E, e.2.1 ∈ r.reverse := fun e he => List.mem_reverse.mpr (hin e he)
  have ndd : ∀ {x : Addr} {o : HO}, H x = some o → x ≠ d' := fun h e => by
    rw [e, nd'] at h
    cases h
  let F3 : Nat → Str → Str → Int → Bool := fun i x y n => fI E r.reverse x y n || (decide (x = y ∧ x ∈ r.take i) && decide (n = 0))
  have F3z : ∀ x y n, F3 0 x y n = fI E r.reverse x y n := fun x y n => by
    show (_ || (decide (x = y ∧ x ∈ r.take 0) && _)) = _
    rw [List.take_zero]
    simp
  have F3e : ∀ x y, x ∈ r → ∀ n, F3 r.length x y n = fR E x y n := fun x y hx n => by
    show (_ || (decide (x = y ∧ x ∈ r.take r.length) && decide (n = 0))) = _
    rw [Bool.eq_iff_iff, Bool.or_eq_true, Bool.and_eq_true, decide_eq_true_iff, decide_eq_true_iff, fR_of hAll, List.take_length]
    constructor
    · rintro (h | ⟨⟨h, _⟩, h2⟩)
      · exact .inl h
      · exact .inr ⟨h, h2⟩
    · rintro (h | ⟨h, h2⟩)
      · exact .inl h
      · exact .inr ⟨⟨h, hx⟩, h2⟩
  have okF3 : ∀ i x y, Ok (F3 i x y) Pd (Bd + 1) := fun i x y => by
    have o := g.ok r.reverse x y
    refine ⟨o.c0, o.c1, by omega, by omega, fun n hn => ?_, fun n hn => ?_⟩
    · show (fI E r.reverse x y (n + Pd) || (_ && decide (n + Pd = 0))) = (fI E r.reverse x y n || (_ && decide (n = 0)))
      rw [o.fit.1 n (by omega), decide_eq_false (show ¬ n + Pd = 0 by omega), decide_eq_false (show ¬ n = 0 by omega)]
    · show (fI E r.reverse x y (n - Pd) || (_ && decide (n - Pd = 0))) = (fI E r.reverse x y n || (_ && decide (n = 0)))
      rw [o.fit.2 n (by omega), decide_eq_false (show ¬ n - Pd = 0 by omega), decide_eq_false (show ¬ n = 0 by omega)]
  refine ⟨fun σ' H' => Le H H' ∧ ∃ kv' x3 x4 x5 x6 x7 x8, H' d' = some (.dT kv') ∧ TabR C H' kv' (fun a b => a ∈ r ∧ b ∈ r) (fR E) ∧ σ' = [some (.ref q), some (.ref u), some (.ref d'), x3, x4, x5, x6, x7, x8], ?_, ?_⟩
  · refine ⟨_, rfl, q, rfl, ⟨_, .of hq5⟩, ?_⟩
    refine for_list (xs := r.map V.str) (fun i σ' H' => Le H H' ∧ ∃ kv' x3 x4 x5 x6 x7 x8, H' d' = some (.dT kv') ∧ kv'.length ≤ 36 + i ∧ TabR C H' kv' (fun a b => a ∈ r ∧ b ∈ r) (F3 i) ∧ σ' = [some (.ref q), some (.ref u), some (.ref d'), x3, x4, x5, x6, x7, x8]) ?_ ?_ ?_ ?_
    · exact ⟨l5, kv2, _, _, _, _, _, _, e5, len5, fun a b h => (t5 a b h).imp fun p ⟨h1, h2⟩ => ⟨h1, h2.to fun n => (F3z a b n).symm⟩, rfl⟩
    · rintro i σ' H' _ ⟨le, _⟩
      exact .of (le _ _ hq)
    · rintro i x σ' Ha hx ⟨le, kv', x3, x4, x5, x6, x7, x8, e', len', t', rfl⟩
      rw [List.getElem?_map, Option.map_eq_some_iff] at hx
      obtain ⟨a, hai, rfl⟩ := hx
      have haR : a ∈ r := List.mem_of_getElem? hai
      have hi6 : i < r.length := (List.getElem?_eq_some_iff.mp hai).1
      obtain ⟨p1, v1, d1⟩ := t' a a ⟨haR, haR⟩
      refine ⟨_, rfl, _, rfl, _, rfl, le_szl 2 (by decide), fun t1 nt1 => ?_⟩
      have k1 := Le.new (o := .tup [.str a, .str a]) nt1
      refine ⟨d', _, rfl, dget2 (k1 _ _ e') upd_self v1, rfl, le_szl 1 (by decide), fun z nz => ?_⟩
      have k2 := Le.new (o := .lst [.int 0]) nz
      refine ⟨z, [0], rfl, upd_self, by decide, by decide, fun p2 H6 k3 d2 n2 => ?_⟩
      have kk := (k1.trans k2).trans k3
      obtain ⟨_, _, _, _, _, i1⟩ := id (d1.le kk)
      obtain ⟨_, _, _, _, _, i2⟩ := id d2
      have oz : Ok (fun n => decide (n ∈ [(0 : Int)])) Pd (Bd + 1) := Ok.zero hp0 (by have := g.p1; omega) (by omega) (by omega)
      refine ⟨_, _, _, _, _, _, rfl, rfl, i1, i2, p1, p2, _, _, Pd, Bd + 1, rfl, d1.le kk, d2, okF3 i a a, oz, fun p3 H7 k4 d3 n3 => ?_⟩
      refine ⟨_, rfl, _, rfl, _, rfl, le_szl 2 (by decide), fun t4 nt4 => ?_⟩
      have k7 := Le.new (o := .tup [.str a, .str a]) nt4
      have k9 := (kk.trans k4).trans k7
      have e7 := k9 _ _ e'
      have d8 := (d3.le k7).to (g := F3 (i + 1) a a) fun n => by
        show ((fI E r.reverse a a n || (decide (a = a ∧ a ∈ r.take i) && decide (n = 0))) || decide (n ∈ [0])) = (fI E r.reverse a a n || (decide (a = a ∧ a ∈ r.take (i + 1)) && decide (n = 0)))
        have : a ∈ r.take (i + 1) := by
          rw [List.take_add_one, hai]
          exact List.mem_append_right _ List.mem_cons_self
        rw [decide_eq_true (show a = a ∧ a ∈ r.take (i + 1) from ⟨rfl, this⟩)]
        by_cases z : n = 0
        · subst z; simp
        · simp [z]
      have t7 := (t'.le k9).put2 (o := .dT (putK kv' [.inr a, .inr a] (.ref p3))) (F' := F3 (i + 1)) e7 d8 fun x y hne _ n => by
        show (_ || (decide (x = y ∧ x ∈ r.take i) && _)) = (_ || (decide (x = y ∧ x ∈ r.take (i + 1)) && _))
        have : (x = y ∧ x ∈ r.take i) ↔ (x = y ∧ x ∈ r.take (i + 1)) := by
          rw [List.take_add_one, hai]
          constructor
          · rintro ⟨h1, h2⟩
            exact ⟨h1, List.mem_append_left _ h2⟩
          · rintro ⟨h1, h2⟩
            rcases List.mem_append.mp h2 with h | h
            · exact ⟨h1, h⟩
            · have h : x = a := List.mem_singleton.mp h
              exact absurd ⟨h, by rw [← h1, h]⟩ hne
        rw [decide_eq_decide.mpr this]
      have et4 : upd H7 t4 (.tup [.str a, .str a]) t4 = some (.tup [.str a, .str a]) := upd_self
      generalize upd H7 t4 (.tup [.str a, .str a]) = H8 at k7 k9 e7 t7 et4 ⊢
      refine ⟨d', _, rfl, DPut.t (k := [.inr a, .inr a]) e7 et4 (le_szl' (by omega)), ?_⟩
      have := put_len (kvs := kv') (k := [.inr a, .inr a]) (v := .ref p3)
      exact ⟨fun x o h => by rw [upd_ne (ndd h)]; exact k9 _ _ (le x o h), _, _, _, _, _, _, _, upd_self, by omega, t7, rfl⟩
    · rintro σ' H' ⟨le, kv', x3, x4, x5, x6, x7, x8, e', len', t', rfl⟩
      rw [List.length_map] at t'
      exact ⟨le, kv', _, _, _, _, _, _, e', fun a b h => (t' a b h).imp fun p ⟨h1, h2⟩ => ⟨h1, h2.to (F3e a b h.1)⟩, rfl⟩
  rintro σ' H' ⟨le, kv', x3, x4, x5, x6, x7, x8, e', t', rfl⟩
  exact ⟨_, rfl, qq d' kv' H' le nd' e' t'⟩
end
end Od
end
section
set_option Elab.async false
set_option linter.all false
set_option maxRecDepth 100000
set_option maxHeartbeats 2000000
set_option autoImplicit false
/-! the law's pen -/
namespace Od
open PySem PySem.Spec PyProof.Rows L2 C8 Day
abbrev s__law_pen : Stmt := top 47
abbrev N__law_pen : List Str := ["_law_script"]
abbrev P__law_pen : List Str := ["_law_script"]
theorem sc__law_pen : FnScope N__law_pen P__law_pen (C8.fnScope s__law_pen) := fnScope_by (by decide +kernel)
abbrev s__law_draw : Stmt := top 48
abbrev N__law_draw : List Str := ["_law_pen_here", "_law_span", "_law_digit", "_law_turn", "_law_cell", "_law_mixed"]
abbrev P__law_draw : List Str := ["_law_pen_here", "_law_span"]
theorem sc__law_draw : FnScope N__law_draw P__law_draw (C8.fnScope s__law_draw) := fnScope_by (by decide +kernel)
def penV (dl : Addr) (t l : Int) : List (Key × V) := [(.inr "cells", .ref dl), (.inr "turn", .int t), (.inr "left", .int l)]
theorem pen_cells (dl : Addr) (t l : Int) : valV (penV dl t l) (.inr "cells") = some (.ref dl) := by rfl
theorem pen_turn (dl : Addr) (t l : Int) : valV (penV dl t l) (.inr "turn") = some (.int t) := by rfl
theorem pen_left (dl : Addr) (t l : Int) : valV (penV dl t l) (.inr "left") = some (.int l) := by rfl
theorem put_turn (dl : Addr) (t l x : Int) : putK (penV dl t l) (.inr "turn") (.int x) = penV dl x l := by rfl
theorem put_left (dl : Addr) (t l x : Int) : putK (penV dl t l) (.inr "left") (.int x) = penV dl t x := by rfl
/-- the pen at d: at most n numbers have been taken -/
def IsPen (H : Hp) (d dl : Addr) (n : Int) : Prop := ∃ (cells : List Int) (t l : Int), H d = some (.dK (penV dl t l)) ∧ H dl = some (.lst (cells.map V.int)) ∧ cells.length ≤ 63 ∧ 0 ≤ t ∧ t ≤ n
theorem IsPen.le {H H' : Hp} {d dl : Addr} {n : Int} (p : IsPen H d dl n) (l : Le H H') : IsPen H' d dl n := by
  obtain ⟨cells, t, x, h1, h2, h3⟩ := p
  exact ⟨cells, t, x, l _ _ h1, l _ _ h2, h3⟩
theorem IsPen.lx {H H' : Hp} {d dl D : Addr} {n : Int} (p : IsPen H d dl n) (l : LeX D H H') (h1 : d ≠ D) (h2 : dl ≠ D) : IsPen H' d dl n := by
  obtain ⟨cells, t, x, e1, e2, h3⟩ := p
  exact ⟨cells, t, x, l _ _ h1 e1, l _ _ h2 e2, h3⟩
theorem IsPen.mono {H : Hp} {d dl : Addr} {n m : Int} (p : IsPen H d dl n) (h : n ≤ m) : IsPen H d dl m := by
  obtain ⟨cells, t, x, h1, h2, h3, h4, h5⟩ := p
  exact ⟨cells, t, x, h1, h2, h3, h4, by omega⟩
theorem IsPen.dict {H : Hp} {d dl : Addr} {n : Int} (p : IsPen H d dl n) : ∃ kvs, H d = some (.dK kvs) := by
  obtain ⟨_, _, _, h, _⟩ := p
  exact ⟨_, h⟩
theorem sqL_le {K : PySem.W.Frag} {H H' : Hp} {a : Addr} {xs : List V} (h : SqL K H a xs) (l : Le H H') : SqL K H' a xs := by
  rcases h with (h | ⟨o, h⟩) | h
  · exact .inl (.inl (l _ _ h))
  · exact .inl (.inr ⟨o, l _ _ h⟩)
  · exact .inr h
theorem dget_of {H : Hp} {a : Addr} {kvs : List (Key × V)} {k : Key} {v : V} (e : H a = some (.dK kvs)) (h : valV kvs k = some v) : DGet H a (kV k) (some v) := h ▸ .k e
section
variable {P : Program} {w : World} {K : PySem.W.Frag} {mg : Str → Option Value} {base : Heap}
def sp_pen : Sp := fun vs H Q _ => ∃ (a : Addr) (xs : List Int), vs = [.ref a] ∧ SqL K H a (xs.map V.int) ∧ xs.length ≤ 63 ∧ ∀ d dl H', Le H H' → H d = none → H dl = none → IsPen H' d dl 0 → Q (.ref d) H'
theorem cut63 (xs : List Int) (lo hi : Option Int) : ∃ ys : List Int, cutV (xs.map V.int) lo hi = ys.map V.int ∧ ys.length ≤ xs.length := by
  have h := cutV_length (xs.map V.int) lo hi
  rw [List.length_map] at h
  unfold cutV at h ⊢
  rw [← List.map_drop, ← List.map_take] at h ⊢
  rw [List.length_map] at h
  exact ⟨_, rfl, h⟩
theorem c_pen (T : Txt K mg) (F : DefOf K mg "_law_pen" s__law_pen P__law_pen) : Cal P w K mg base 1 "_law_pen" (sp_pen (K := K)) [] := by
  obtain ⟨f, fd, F, B⟩ := F
  refine cal0 F B .nil sc__law_pen (fun vs H Q E h => by obtain ⟨_, _, rfl, _⟩ := h; rfl) (fun cdv A outer s H vs Q E hr h => ?_)
  obtain ⟨a, xs, rfl, hs, hx, q⟩ := h
  have nd := sc__law_pen.nd
  refine ⟨_, (pss_one (ps_ret (pe_disp (pps_cons pe_str (pe_callTy call_list_of (by rfl) T.b_list (by decide +kernel) (pa_cons (pe_slice sl_list (pv 0) po_none (po_some pe_int)) pa_nil)) (pps_cons pe_str pe_int (pps_cons pe_str pe_int pps_nil))) (by rfl) (by rfl) (by simp) (by decide)))), ?_⟩
  intro d hd
  have hs' : SqL K (upd H d (.dK [])) a (xs.map V.int) := sqL_le hs (Le.new hd)
  obtain ⟨ys, hy, hl⟩ := cut63 xs none (some 63)
  refine ⟨_, rfl, _, rfl, a, _, rfl, hs', fun p1 n1 => ?_⟩
  rw [hy]
  refine ⟨p1, _, rfl, .inl (.of upd_self), fun p2 n2 => ?_⟩
  have nd2 : p2 ≠ d := fun c => by
    rw [c] at n2
    have := (Le.new (o := .lst (ys.map V.int)) n1) d _ (upd_self (H := H) (p := d) (o := .dK []))
    rw [n2] at this
    cases this
  have ed : upd (upd (upd H d (.dK [])) p1 (.lst (ys.map V.int))) p2 (.lst (ys.map V.int)) d = some (.dK []) := ((Le.new n1).trans (Le.new n2)) d _ upd_self
  refine ⟨ed, penV p2 0 0, rfl, (show 3 ≤ 15 by decide), ?_⟩
  have lH : Le H (upd (upd (upd (upd H d (.dK [])) p1 (.lst (ys.map V.int))) p2 (.lst (ys.map V.int))) d (.dK (mergeK [] (penV p2 0 0)))) := (((Le.new hd).trans (Le.new n1)).trans (Le.new n2)).upd hd
  refine q d p2 _ lH hd (((Le.new (o := .dK []) hd).trans (Le.new (o := .lst (ys.map V.int)) n1)).none n2) ⟨ys, 0, 0, upd_self.trans rfl, by rw [upd_ne nd2, upd_self], by omega, by decide, by decide⟩
def sp_draw : Sp := fun vs H Q _ => ∃ (d dl : Addr) (span n : Int), vs = [.ref d, .int span] ∧ IsPen H d dl n ∧ n ≤ 1000000000 ∧ 0 < span ∧ span.natAbs.log2 < 9000 ∧ ∀ r H', LeX d H H' → IsPen H' d dl (n + 1) → 0 ≤ r → r < span → Q (.int r) H'
theorem c_draw (T : Txt K mg) (F : DefOf K mg "_law_draw" s__law_draw P__law_draw) : Cal P w K mg base 1 "_law_draw" sp_draw [] := by
  obtain ⟨f, fd, F, B⟩ := F
  refine cal0 F B .nil sc__law_draw (fun vs H Q E h => by obtain ⟨_, _, _, _, rfl, _⟩ := h; rfl) (fun cdv A outer s H vs Q E hr h => ?_)
  obtain ⟨d, dl, span, n, rfl, ⟨cells, t, l, e1, e2, h3, h4, h5⟩, n1, s0, s1, q⟩ := h
  have nd := sc__law_draw.nd
  have ndl : dl ≠ d := fun c => by rw [c, e1] at e2; cases e2
  refine ⟨_, (C8.pss_cut (ps_if (pt_cmpR op_gt (pe_dget (Room.u1 hr) (pv 0) pe_str (fun _ _ => rfl)) pe_int (nomark _)) (pss_cons (ps_set (i := 2) nd rfl (Or.inl rfl) (pe_op op_mod (pe_callTy call_int1 (by rfl) T.b_int (by decide +kernel) (pa_cons (pe_dget (Room.u1 hr) (pv 0) pe_str (fun _ _ => rfl)) pa_nil)) (pv 1)))
      (pss_cons (ps_dput (Room.u1 hr) (pv 0) pe_str (pe_op op_fdivW (pe_dget (Room.u1 hr) (pv 0) pe_str (fun _ _ => rfl)) (pv 1)) rfl)
      (pss_one (ps_ret (pv 2))))) pss_nil)
      (pss_cons (ps_set (i := 3) nd rfl (Or.inl rfl) (pe_dget (Room.u1 hr) (pv 0) pe_str (fun _ _ => rfl)))
      (pss_cons (ps_dput (Room.u1 hr) (pv 0) pe_str (pe_op op_add (pv 3) pe_int) rfl)
      (pss_cons (ps_set (i := 4) nd rfl (Or.inl rfl) (pe_op op_add (pe_op op_mul pe_int (pv 3)) pe_int))
      (C8.pss_cut (ps_if (pt_cmpR (op_neE hr.units) (pe_dget (Room.u1 hr) (pv 0) pe_str (fun _ _ => rfl)) (pe_lst pa_nil) (nomark _)) (pss_one (ps_set (i := 4) nd rfl (Or.inl rfl) (pe_ix ix_list (pe_dget (Room.u1 hr) (pv 0) pe_str (fun _ _ => rfl)) (pe_op op_mod (pe_callTy call_int1 (by rfl) T.b_int (by decide +kernel) (pa_cons (pv 3) pa_nil)) (pe_callB call_len_seq (by rfl) T.b_len (by decide +kernel) (pa_cons (pe_dget (Room.u1 hr) (pv 0) pe_str (fun _ _ => rfl)) pa_nil))) (fun _ _ => rfl)))) pss_nil)
      (C8.pss_cut (ps_if (PW.pt (pw_and (pt_cmpR op_lt (pv 3) (pe_callB call_len_seq (by rfl) T.b_len (by decide +kernel) (pa_cons (pe_dget (Room.u1 hr) (pv 0) pe_str (fun _ _ => rfl)) pa_nil)) (nomark _)) (pw_and1 (pt_cmpR op_ge (pe_callB call_abs (by rfl) T.b_abs (by decide +kernel) (pa_cons (pv 4) pa_nil)) (pe_op op_pow pe_int pe_int) (nomark _))))) (pss_cons (ps_dput (Room.u1 hr) (pv 0) pe_str (pe_op op_fdivW (pe_op op_sub (pe_callB call_abs (by rfl) T.b_abs (by decide +kernel) (pa_cons (pv 4) pa_nil)) (pe_op op_pow pe_int pe_int)) (pv 1)) rfl)
      (pss_one (ps_ret (pe_op op_mod (pe_callTy call_int1 (by rfl) T.b_int (by decide +kernel) (pa_cons (pe_op op_sub (pe_callB call_abs (by rfl) T.b_abs (by decide +kernel) (pa_cons (pv 4) pa_nil)) (pe_op op_pow pe_int pe_int)) pa_nil)) (pv 1))))) pss_nil)
      (pss_cons (ps_set (i := 5) nd rfl (Or.inl rfl) (pe_op op_mul (pe_op op_mod (pe_callTy call_int1 (by rfl) T.b_int (by decide +kernel) (pa_cons (pv 4) pa_nil)) pe_int) pe_int))
      (pss_cons (ps_set (i := 5) nd rfl (Or.inl rfl) (pe_op op_mod (pe_callTy call_int1 (by rfl) T.b_int (by decide +kernel) (pa_cons (pe_op op_add (pe_op op_add (pv 5) (pe_op op_mul (pv 3) (pe_op op_add (pe_op op_mul (pv 3) pe_int) pe_int))) pe_int) pa_nil)) pe_int))
      (pss_cons (ps_set (i := 5) nd rfl (Or.inl rfl) (pe_op op_mod (pe_callTy call_int1 (by rfl) T.b_int (by decide +kernel) (pa_cons (pe_op op_mul (pv 5) (pe_op op_add (pv 5) pe_int)) pa_nil)) pe_int))
      (pss_cons (ps_set (i := 5) nd rfl (Or.inl rfl) (pe_op op_mod (pe_callTy call_int1 (by rfl) T.b_int (by decide +kernel) (pa_cons (pe_op op_add (pe_op op_add (pe_op op_mul (pv 5) (pv 5)) (pe_op op_mul pe_int (pv 5))) (pe_op op_mul pe_int (pv 3))) pa_nil)) pe_int))
      (pss_one (ps_ret (pe_op op_mod (pe_callTy call_int1 (by rfl) T.b_int (by decide +kernel) (pa_cons (pe_op op_fdivW (pe_op op_mod (pe_callTy call_int1 (by rfl) T.b_int (by decide +kernel) (pa_cons (pe_op op_mul (pv 5) (pe_op op_add (pv 5) pe_int)) pa_nil)) pe_int) pe_int) pa_nil)) (pv 1)))))))))))))), ?_⟩
  have lx : ∀ (H0 : Hp) o, LeX d H H0 → LeX d H (upd H0 d o) := fun H0 o l => l.upd
  have m0 : ∀ x : Int, 0 ≤ x % span ∧ x % span < span := fun x => ⟨Int.emod_nonneg x (by omega), Int.emod_lt_of_pos x s0⟩
  refine ⟨fun σ' H' => H' = H ∧ σ' = [some (.ref d), some (.int span), none, none, none, none], ?_, ?_⟩
  rotate_left
  · rintro σ' H' ⟨eH, rfl⟩
    have eH := eH.symm
    subst eH
    refine ⟨_, rfl, d, _, rfl, dget_of e1 (pen_turn _ _ _), ?_⟩
    refine ⟨_, rfl, _, _, rfl, rfl, _, rfl, d, _, rfl, .k (k := .inr "turn") e1 (le_szl 4 (by decide)), ?_⟩
    have E1 : upd H d (.dK (putK (penV dl t l) (.inr "turn") (.int (t + 1)))) d = some (.dK (penV dl (t + 1) l)) := by rw [upd_self, put_turn]
    have E2 : upd H d (.dK (putK (penV dl t l) (.inr "turn") (.int (t + 1)))) dl = some (.lst (cells.map V.int)) := by rw [upd_ne ndl]; exact e2
    have L1 : LeX d H (upd H d (.dK (putK (penV dl t l) (.inr "turn") (.int (t + 1))))) := lx _ _ Le.refl.x
    generalize upd H d (.dK (putK (penV dl t l) (.inr "turn") (.int (t + 1)))) = H1 at *
    refine ⟨_, rfl, _, _, rfl, rfl, .inl ⟨by decide, by decide⟩, _, _, rfl, rfl, ?_⟩
    -- the cell
    refine ⟨fun σ' H' => Le H1 H' ∧ ∃ (cell : Int) (x : Option V), σ' = [some (.ref d), some (.int span), x, some (.int t), some (.int cell), none], ?_, ?_⟩
    · refine ⟨_, rfl, d, _, rfl, dget_of E1 (pen_cells _ _ _), Nat.zero_le _, fun q1 n1 => ?_⟩
      have E3 := (Le.new (o := .lst []) n1) _ _ E2
      have E4 := (Le.new (o := .lst []) n1) _ _ E1
      refine ⟨dl, q1, _, _, rfl, rfl, .of E3, .of upd_self, .inr rfl, _, rfl, ?_⟩
      refine ite2 (fun c => ?_) (fun c => ?_)
      · have hne : cells ≠ [] := fun e => by rw [e] at c; cases c
        have hpos := List.length_pos_iff.mpr hne
        have c0 : (0 : Int) < ((cells.map V.int).length : Int) := by rw [List.length_map]; omega
        have b1 := Int.emod_nonneg t (show ((cells.map V.int).length : Int) ≠ 0 by omega)
        have b2 := Int.emod_lt_of_pos t c0
        have hi : (t % ((cells.map V.int).length : Int)).toNat < cells.length := by rw [List.length_map] at *; omega
        refine ⟨_, rfl, d, _, rfl, dget_of E4 (pen_cells _ _ _), _, rfl, .inl ⟨_, rfl, _, rfl, d, _, rfl, dget_of E4 (pen_cells _ _ _), _, _, rfl, .inl (.of E3), _, _, rfl, rfl, c0, ?_⟩⟩
        refine ⟨_, _, _, .int cells[(t % ((cells.map V.int).length : Int)).toNat], rfl, rfl, .of E3, ?_, Le.new n1, _, _, rfl⟩
        have := atI_nat (xs := cells.map V.int) (j := (t % ((cells.map V.int).length : Int)).toNat) (v := .int cells[(t % ((cells.map V.int).length : Int)).toNat]) (by rw [List.getElem?_map, List.getElem?_eq_getElem hi]; rfl)
        rwa [show (((t % ((cells.map V.int).length : Int)).toNat : Nat) : Int) = t % ((cells.map V.int).length : Int) by omega] at this
      · exact ⟨Le.new n1, _, _, rfl⟩
    rintro σ' H2 ⟨le, cell, x, rfl⟩
    have E5 := le _ _ E1
    have E6 := le _ _ E2
    have L2 : LeX d H H2 := fun a o h1 h2 => le _ _ (L1 a o h1 h2)
    have plain : IsPen H2 d dl (n + 1) := ⟨cells, t + 1, l, E5, E6, h3, by omega, by omega⟩
    refine ⟨fun σ' H' => H' = H2 ∧ σ' = [some (.ref d), some (.int span), x, some (.int t), some (.int cell), none], ?_, ?_⟩
    · refine ⟨_, rfl, _, rfl, d, _, rfl, dget_of E5 (pen_cells _ _ _), _, _, rfl, .inl (.of E6), _, _, rfl, rfl, _, rfl, ?_⟩
      refine ite2 (fun c => ?_) (fun c => ⟨rfl, rfl⟩)
      refine ⟨_, rfl, _, rfl, _, _, rfl, rfl, ⟨by decide, by decide, by decide⟩, _, _, rfl, rfl, _, rfl, ?_⟩
      refine ite2 (fun c => ?_) (fun c => ⟨rfl, rfl⟩)
      refine ⟨_, rfl, _, rfl, _, _, rfl, rfl, ⟨by decide, by decide, by decide⟩, _, _, rfl, rfl, _, rfl, _, _, rfl, rfl, ⟨s0, s1⟩, _, rfl, d, _, rfl, .k (k := .inr "left") E5 (le_szl 4 (by decide)), ?_⟩
      refine ⟨_, rfl, _, rfl, _, _, rfl, rfl, ⟨by decide, by decide, by decide⟩, _, _, rfl, rfl, .inl ⟨_, rfl, _, rfl, _, _, rfl, rfl, s0, ?_⟩⟩
      refine q _ _ (lx _ _ L2) ?_ (m0 _).1 (m0 _).2
      refine ⟨cells, t + 1, _, (upd_self).trans rfl, by rw [upd_ne ndl]; exact E6, h3, by omega, by omega⟩
    rintro σ' H3 ⟨rfl, rfl⟩
    have p1 : ∀ a b : Int, 0 < b → 0 ≤ a % b ∧ a % b < b := fun a b hb => ⟨Int.emod_nonneg a (by omega), Int.emod_lt_of_pos a hb⟩
    refine ⟨_, rfl, .inl ⟨_, rfl, _, _, rfl, rfl, (show (0 : Int) < 4294967087 by decide), _, _, rfl, rfl, .inr ⟨by decide, by decide⟩, ?_⟩⟩
    refine ⟨_, rfl, _, rfl, _, rfl, _, _, rfl, rfl, .inr ⟨by decide, by decide⟩, _, _, rfl, rfl, _, _, rfl, rfl, .inl ⟨by omega, by omega⟩, _, _, rfl, rfl, _, _, rfl, rfl, .inl ⟨_, rfl, _, _, rfl, rfl, (show (0 : Int) < 4294967029 by decide), ?_⟩⟩
    refine ⟨_, rfl, _, rfl, _, _, rfl, rfl, _, _, rfl, rfl, .inl ?_, .inl ⟨_, rfl, _, _, rfl, rfl, (show (0 : Int) < 4294966997 by decide), ?_⟩⟩
    · have := p1 (cell % 4294967087 * 48611 + t * (t * 27919 + 10601) + 41) 4294967029 (by decide)
      exact ⟨by omega, by omega⟩
    generalize hx : (_ : Int) * (_ + 75013) = xx
    have b1 := p1 xx 4294966997 (by decide)
    refine ⟨_, rfl, _, rfl, _, _, rfl, rfl, .inl ⟨by omega, by omega⟩, _, rfl, _, _, rfl, rfl, .inl ⟨by decide, by decide⟩, _, _, rfl, rfl, _, rfl, _, _, rfl, rfl, .inl ⟨by decide, by decide⟩, _, _, rfl, rfl, .inl ⟨_, rfl, _, _, rfl, rfl, (show (0 : Int) < 4294966981 by decide), ?_⟩⟩
    generalize hy : (_ : Int) + 19 * t = yy
    have b2 := p1 yy 4294966981 (by decide)
    refine ⟨_, rfl, _, rfl, _, _, rfl, rfl, _, _, rfl, rfl, .inl ⟨by omega, by omega⟩, .inl ⟨_, rfl, _, _, rfl, rfl, (show (0 : Int) < 4294966943 by decide), _, _, rfl, rfl, ⟨by decide, by decide⟩, .inl ⟨_, rfl, _, rfl, _, _, rfl, rfl, s0, ?_⟩⟩⟩
    exact q _ _ L2 plain (m0 _).1 (m0 _).2
  refine ⟨_, rfl, d, _, rfl, dget_of e1 (pen_left _ _ _), _, _, rfl, rfl, _, rfl, ?_⟩
  refine ite2 (fun c => ?_) (fun c => ⟨rfl, rfl⟩)
  · refine ⟨_, rfl, d, _, rfl, dget_of e1 (pen_left _ _ _), .inl ⟨_, rfl, _, rfl, _, _, rfl, rfl, s0, ?_⟩⟩
    refine ⟨_, rfl, d, _, rfl, dget_of e1 (pen_left _ _ _), _, rfl, _, _, rfl, rfl, ⟨s0, s1⟩, _, rfl, d, _, rfl, .k (k := .inr "left") e1 (le_szl 4 (by decide)), ?_⟩
    refine ⟨_, rfl, q _ _ (lx _ _ Le.refl.x) ?_ (m0 l).1 (m0 l).2⟩
    refine ⟨cells, t, l / span, ?_, by rw [upd_ne ndl]; exact e2, h3, h4, by omega⟩
    rw [upd_self]
    rfl
end
end Od
namespace Od
open PySem PySem.Spec PyProof.Rows L2 C8 Day
/-- all but two stands -/
def LeXX (d D : Addr) (H H' : Hp) : Prop := ∀ a o, a ≠ d → a ≠ D → H a = some o → H' a = some o
theorem LeX.tr {D : Addr} {H H1 H2 : Hp} (a : LeX D H H1) (b : LeX D H1 H2) : LeX D H H2 := fun x o c h => b x o c (a x o c h)
/-- a comprehension whose turns take numbers from the pen: at most c a turn -/
theorem lc_pen {J : It} {n : Nat} {G : Hp → Prop} {Y : Nat → Hp → V → Hp → Prop} (w : Walk J n G Y) {g : TG} {tt : TT} {te : TE} {vs : List Nat} {σ : L2.St} {H1 : Hp} {D d dl : Addr} {N0 c : Int} {Qd : Hp → Prop} (hD : H1 D = none) (hp : IsPen H1 d dl N0) (hn : n ≤ sizeLine)
    (hG : ∀ H, LeX d H1 H → G H) (hY : ∀ i H x H', Y i H x H' → Le H H') (R : Option V → Hp → Prop) (hR : ∀ r H H', LeXX d D H H' → (∃ acc, H D = some (.lst acc)) → (∃ kvs, H d = some (.dK kvs)) → R r H → R r H')
    (hs : ∀ i x H H', i < n → LeX d H1 H → (∃ acc, H D = some (.lst acc)) → IsPen H' d dl (N0 + (i : Nat) * c) → Y i H x H' → ∀ N : Option V → Hp → Prop, (∀ r H2, LeX d H' H2 → IsPen H2 d dl (N0 + (i : Nat) * c + c) → R r H2 → N r H2) → g x (wipe σ vs) H' fun σ2 H2 => wipe σ2 vs = wipe σ vs ∧ tt σ2 H2 fun b H3 => if b = true then te σ2 H3 fun y H4 => N (some y) H4 else N none H3)
    (hd : ∀ H (rs : List (Option V)), LeX d H1 H → IsPen H d dl (N0 + (n : Nat) * c) → rs.length = n → (∀ r ∈ rs, R r H) → H D = some (.lst (rs.filterMap id)) → Qd H) :
    ∃ W : Nat → Nat → Hp → Prop, (∃ m, W 0 m (upd H1 D (.lst []))) ∧ ∀ i m H, W i m H →
      (J.stop i H ∧ Qd H) ∨ (J.go i H ∧ ∃ Nx : Hp → Prop, (∀ H', Nx H' → ∃ m', m' < m ∧ W (i + 1) m' H') ∧ ∀ x H', J.yld i H x H' → g x (wipe σ vs) H' fun σ2 H2 => wipe σ2 vs = wipe σ vs ∧ tt σ2 H2 fun b H3 =>
        if b = true then te σ2 H3 fun y H4 => ∃ acc, H4 D = some (.lst acc) ∧ acc.length < sizeLine ∧ Nx (upd H4 D (.lst (acc ++ [y]))) else Nx H3) := by
  have hdD : d ≠ D := fun e => by
    obtain ⟨_, _, _, h1, _⟩ := hp
    rw [e, hD] at h1; cases h1
  have hlD : dl ≠ D := fun e => by
    obtain ⟨_, _, _, _, h1, _⟩ := hp
    rw [e, hD] at h1; cases h1
  have one : ∀ i : Nat, N0 + (i : Nat) * c + c = N0 + ((i + 1 : Nat) : Int) * c := fun i => by
    rw [Int.natCast_add, Int.add_mul]; simp; omega
  have penK : ∀ {H : Hp} {m : Int}, IsPen H d dl m → ∃ kvs, H d = some (.dK kvs) := fun h => by
    obtain ⟨_, _, _, h1, _⟩ := h
    exact ⟨_, h1⟩
  refine lc_it w (fun i H => LeX d H1 H ∧ IsPen H d dl (N0 + (i : Nat) * c) ∧ ∃ rs : List (Option V), rs.length = i ∧ (∀ r ∈ rs, R r H) ∧ H D = some (.lst (rs.filterMap id))) ⟨(Le.new hD).x, (hp.le (Le.new hD)).mono (by simp), [], rfl, fun r h => by simp at h, upd_self⟩ (fun i H _ p => hG H p.1) ?_ ?_
  · rintro i x H H' hi ⟨lx, pn, rs, hl, hr, e⟩ hy
    have l2 := hY i H x H' hy
    have eD : H' D = some (.lst (rs.filterMap id)) := l2 D _ e
    have lenf : (rs.filterMap id).length ≤ i := by rw [← hl]; exact List.length_filterMap_le _ _
    have st := hs i x H H' hi lx ⟨_, e⟩ (pn.le l2) hy (fun r H4 => match r with
      | some y => ∃ acc, H4 D = some (.lst acc) ∧ acc.length < sizeLine ∧ (LeX d H1 (upd H4 D (.lst (acc ++ [y]))) ∧ IsPen (upd H4 D (.lst (acc ++ [y]))) d dl (N0 + ((i + 1 : Nat) : Int) * c) ∧ ∃ rs' : List (Option V), rs'.length = i + 1 ∧ (∀ r ∈ rs', R r (upd H4 D (.lst (acc ++ [y])))) ∧ upd H4 D (.lst (acc ++ [y])) D = some (.lst (rs'.filterMap id)))
      | none => LeX d H1 H4 ∧ IsPen H4 d dl (N0 + ((i + 1 : Nat) : Int) * c) ∧ ∃ rs' : List (Option V), rs'.length = i + 1 ∧ (∀ r ∈ rs', R r H4) ∧ H4 D = some (.lst (rs'.filterMap id))) ?_
    · exact st
    · intro r H2 l3 p3 hr2
      have eD2 := l3 D _ hdD.symm eD
      have k1 : LeX d H1 H2 := (lx.tr l2.x).tr l3
      have old : ∀ q ∈ rs, R q H2 := fun q hq => hR q H H2 (fun a o h1 _ h => (l2.x.tr l3) a o h1 h) ⟨_, e⟩ (penK pn) (hr q hq)
      rw [one] at p3
      cases r with
      | none =>
        refine ⟨k1, p3, rs ++ [none], by simp [hl], fun q hq => ?_, by simpa using eD2⟩
        rcases List.mem_append.mp hq with h | h
        · exact old q h
        · rw [List.mem_singleton.mp h]; exact hr2
      | some y =>
        have lxx : ∀ o, LeXX d D H2 (upd H2 D o) := fun o a u _ h2 h => by rw [upd_ne h2]; exact h
        refine ⟨_, eD2, by omega, fun a o h1 h => ?_, p3.lx (Le.refl.x.upd) hdD hlD, rs ++ [some y], by simp [hl], fun q hq => ?_, by rw [upd_self]; simp⟩
        · by_cases c : a = D
          · subst c; rw [hD] at h; cases h
          · rw [upd_ne c]; exact k1 a o h1 h
        · rcases List.mem_append.mp hq with h | h
          · exact hR q H2 _ (lxx _) ⟨_, eD2⟩ (penK p3) (old q h)
          · rw [List.mem_singleton.mp h]; exact hR _ H2 _ (lxx _) ⟨_, eD2⟩ (penK p3) hr2
  · rintro H ⟨lx, pn, rs, hl, hr, e⟩
    exact hd H rs lx pn hl hr e
theorem lg9 : ∀ x : Int, 0 < x → x < 100000000 → x.natAbs.log2 < 9000 := fun x h0 h => by
  have h1 : x.natAbs ≠ 0 := by omega
  have := (Nat.log2_lt h1).mpr (show x.natAbs < 2 ^ 27 by omega)
  omega
theorem IsPen.ne {H : Hp} {d dl p : Addr} {n : Int} (pn : IsPen H d dl n) {xs : List V} (h : H p = some (.lst xs)) : p ≠ d := fun c => by
  obtain ⟨kvs, e⟩ := pn.dict
  rw [c, e] at h
  cases h
theorem at_mem {α : Type} {xs : List α} {r : Int} (h0 : 0 ≤ r) (h1 : r < xs.length) : ∃ v ∈ xs, atI xs r = some v := by
  have h2 : r.toNat < xs.length := by omega
  refine ⟨xs[r.toNat], List.getElem_mem h2, ?_⟩
  have := atI_nat (xs := xs) (j := r.toNat) (v := xs[r.toNat]) (List.getElem?_eq_getElem h2)
  rwa [show ((r.toNat : Nat) : Int) = r by omega] at this
end Od
end
section
set_option Elab.async false
set_option linter.all false
set_option maxRecDepth 100000
set_option maxHeartbeats 2000000
set_option autoImplicit false
namespace Od
open PySem PySem.Spec PyProof.Rows L2 C8 Day
abbrev s_is_row : Stmt := top 23
abbrev N_is_row : List Str := ["word", "sign"]
abbrev P_is_row : List Str := ["word"]
theorem sc_is_row : FnScope N_is_row P_is_row (C8.fnScope s_is_row) := fnScope_by (by decide +kernel)
abbrev s_is_count : Stmt := top 14
abbrev N_is_count : List Str := ["word", "sign"]
abbrev P_is_count : List Str := ["word"]
theorem sc_is_count : FnScope N_is_count P_is_count (C8.fnScope s_is_count) := fnScope_by (by decide +kernel)
abbrev s_is_number : Stmt := top 15
abbrev N_is_number : List Str := ["word"]
abbrev P_is_number : List Str := ["word"]
theorem sc_is_number : FnScope N_is_number P_is_number (C8.fnScope s_is_number) := fnScope_by (by decide +kernel)
theorem fm_str {α : Type} (z : Str) (f : Nat → α) : ((List.range z.cps.size).filterMap fun i => (z.cps[i]?).map f) = z.cps.toList.map f := by
  have h := fm_get z.cps.toList
  rw [Array.length_toList] at h
  have h2 := congrArg (List.map f) h
  rw [List.map_filterMap] at h2
  rw [← h2]
  simp only [Array.getElem?_toList]
theorem cps_len (z : Str) : z.cps.toList.length = z.length := by simp [Str.length]
theorem cutS_to (z : Str) (i : Nat) : (cutS z none (some (i : Int))).cps.toList = z.cps.toList.take i := by
  have h := cps_len z
  show ((z.cps.toList.drop (HT.sIx z.length 0 none)).take (HT.sIx z.length z.length (some (i : Int)) - HT.sIx z.length 0 none)) = _
  rw [HT.sIx_nat, HT.sIx_none, List.drop_zero, Nat.sub_zero]
  by_cases c : i ≤ z.length
  · rw [Nat.min_eq_left c]
  · rw [Nat.min_eq_right (by omega), List.take_of_length_le (by omega), List.take_of_length_le (by omega)]
theorem cutS_from (z : Str) (i : Nat) : (cutS z (some (i : Int)) none).cps.toList = z.cps.toList.drop i := by
  have h := cps_len z
  show ((z.cps.toList.drop (HT.sIx z.length 0 (some (i : Int)))).take (HT.sIx z.length z.length none - HT.sIx z.length 0 (some (i : Int)))) = _
  rw [HT.sIx_nat, HT.sIx_none]
  by_cases c : i ≤ z.length
  · rw [Nat.min_eq_left c, List.take_of_length_le (by rw [List.length_drop]; omega)]
  · rw [Nat.min_eq_right (by omega), List.drop_eq_nil_of_le (by omega), List.drop_eq_nil_of_le (by omega)]
    simp
def IsRowL (l : List Nat) : Prop := l ≠ [] ∧ ∀ c ∈ l, c = 48 ∨ c = 49
def IsCnt (l : List Nat) : Prop := l ≠ [] ∧ (∀ c ∈ l, 48 ≤ c ∧ c ≤ 57) ∧ (l = [48] ∨ l.head? ≠ some 48)
def IsNum (l : List Nat) : Prop := (∃ r, l = 45 :: r ∧ IsCnt r ∧ r ≠ [48]) ∨ IsCnt l
theorem tl_nil : (("" : Str)).cps.toList = [] := by decide +kernel
theorem str_dec (z : Str) (l : List Nat) (y : Str) (h : y.cps.toList = l) : decide (V.str z = V.str y) = decide (z.cps.toList = l) := by
  by_cases c : z.cps.toList = l
  · rw [decide_eq_true c, decide_eq_true]
    rw [TL.ext_tl (x := z) (y := y) (c.trans h.symm)]
  · rw [decide_eq_false c, decide_eq_false]
    intro e
    injection e with e
    exact c (by rw [e, h])
section
variable {P : Program} {w : World} {K : PySem.W.Frag} {mg : Str → Option Value} {base : Heap}
def sp_isL (R : List Nat → Prop) : Sp := fun vs H Q _ => ∃ z : Str, vs = [.str z] ∧ z.length ≤ 1000000 ∧ ∀ b H', Le H H' → (b = true ↔ R z.cps.toList) → Q (.bl b) H'
theorem c_is_row (T : Txt K mg) (F : DefOf K mg "is_row" s_is_row P_is_row) : Cal P w K mg base 1 "is_row" (sp_isL IsRowL) [] := by
  obtain ⟨f, fd, F, B⟩ := F
  refine cal0 F B .nil sc_is_row (fun vs H Q E h => by obtain ⟨_, rfl, _⟩ := h; rfl) (fun cdv A outer s H vs Q E hr h => ?_)
  obtain ⟨z, rfl, hz, q⟩ := h
  have nd := sc_is_row.nd
  refine ⟨_, (pss_one (ps_ret (pe_and (pe_cmpR op_ne (pv 0) pe_str (nomark _)) (pe_one (pe_callB (cr_all rfl) (by rfl) T.b_all (by decide +kernel) (pa_cons (pe_lc (own := [("sign", 1)]) (g := gName 1) (by rfl) nd (pi_str (pv 0)) (blkOk_by (own := [("sign", 1)]) (N := N_is_row) (sc := C8.fnScope s_is_row) (by decide +kernel)) (fun _ _ _ _ _ => pg_name (i := 1) nd rfl (Or.inl rfl)) (fun _ _ _ _ _ => pts_nil) (fun _ _ _ _ _ => (pe_cmpR op_in_sign (pv 1) pe_str (by rfl)))) pa_nil)))))), ?_⟩
  refine ⟨_, rfl, rfl, _, rfl, ?_⟩
  show if (!decide (V.str z = V.str ("" : Str))) = true then _ else _
  rw [str_dec z [] "" tl_nil]
  refine ite2 (fun c => ?_) (fun c => ?_)
  · have hne : z.cps.toList ≠ [] := fun e => by rw [decide_eq_true e] at c; cases c
    refine ⟨_, rfl, _, rfl, fun d hd => ?_⟩
    refine lc_pure walk_str hd ?_ (fun _ _ => trivial) (fun _ _ _ _ h => by rw [h.1]; exact .refl) (fun i => (z.cps[i]?).map fun c => V.bl (decide (c = 48 ∨ c = 49))) ?_ ?_
    · exact le_szl _ (show z.length ≤ 16777216 by omega)
    · rintro i x H1 H2 hi le ⟨rfl, c, hc, rfl⟩ N hN
      have := hN H2 .refl
      rw [hc] at this
      refine ⟨rfl, _, rfl, c, _, rfl, rfl, ?_⟩
      have e : decide (c ∈ (("01" : Str)).cps.toList) = decide (c = 48 ∨ c = 49) := by
        rw [show (("01" : Str)).cps.toList = [48, 49] by decide +kernel]
        simp
      rw [e]
      exact this
    · intro H1 le e
      rw [fm_str z fun c => V.bl (decide (c = 48 ∨ c = 49))] at e
      refine ⟨d, z.cps.toList.map fun c => decide (c = 48 ∨ c = 49), rfl, .of (by rw [e, List.map_map]; rfl), q _ _ le ?_⟩
      rw [List.all_map, List.all_eq_true]
      constructor
      · intro h
        exact ⟨hne, fun c hc => of_decide_eq_true (h c hc)⟩
      · intro h c hc
        exact decide_eq_true (h.2 c hc)
  · have he : z.cps.toList = [] := by
      cases h : z.cps.toList with
      | nil => rfl
      | cons a r => rw [h] at c; exact absurd rfl c
    refine q _ _ .refl ⟨fun h => (by cases h), fun h => absurd he h.1⟩
theorem c_is_count (T : Txt K mg) (G_DIGITS : ∃ u, mg "DIGITS" = some u ∧ L2.RelV (.str "0123456789") u) (F : DefOf K mg "is_count" s_is_count P_is_count) : Cal P w K mg base 1 "is_count" (sp_isL IsCnt) [] := by
  obtain ⟨f, fd, F, B⟩ := F
  refine cal0 F B .nil sc_is_count (fun vs H Q E h => by obtain ⟨_, rfl, _⟩ := h; rfl) (fun cdv A outer s H vs Q E hr h => ?_)
  obtain ⟨z, rfl, hz, q⟩ := h
  have nd := sc_is_count.nd
  refine ⟨_, (pss_cons (ps_if (PW.pt (pw_or (pt_cmpR op_eq (pv 0) pe_str (nomark _)) (pw_or1 (pt_not (pt_val (pe_callB (cr_all rfl) (by rfl) T.b_all (by decide +kernel) (pa_cons (pe_lc (own := [("sign", 1)]) (g := gName 1) (by rfl) nd (pi_str (pv 0)) (blkOk_by (own := [("sign", 1)]) (N := N_is_count) (sc := C8.fnScope s_is_count) (by decide +kernel)) (fun _ _ _ _ _ => pg_name (i := 1) nd rfl (Or.inl rfl)) (fun _ _ _ _ _ => pts_nil) (fun _ _ _ _ _ => (pe_cmpR op_in_sign (pv 1) (pe_gc rfl G_DIGITS) (by rfl)))) pa_nil))))))) (pss_one (ps_ret pe_bl)) pss_nil)
      (pss_one (ps_ret (pe_or (pe_cmpR op_eq (pv 0) pe_str (nomark _)) (pe_one (pe_cmpR op_ne (pe_ix ix_str (pv 0) pe_int (fun _ _ => rfl)) pe_str (nomark _))))))), ?_⟩
  have dig : (("0123456789" : Str)).cps.toList = [48, 49, 50, 51, 52, 53, 54, 55, 56, 57] := by decide +kernel
  have hz1 : z.length ≤ sizeLine := le_szl _ (by omega)
  refine ⟨_, rfl, rfl, _, rfl, ?_⟩
  show if decide (V.str z = V.str ("" : Str)) = true then _ else _
  rw [str_dec z [] "" tl_nil]
  refine ite2 (fun c => ?_) (fun c => ?_)
  · have he : z.cps.toList = [] := of_decide_eq_true c
    exact q _ _ .refl ⟨fun h => (by cases h), fun h => absurd he h.1⟩
  have hne : z.cps.toList ≠ [] := fun e => c (decide_eq_true e)
  refine ⟨_, rfl, _, rfl, fun d hd => ?_⟩
  refine lc_pure walk_str hd ?_ (fun _ _ => trivial) (fun _ _ _ _ h => by rw [h.1]; exact .refl) (fun i => (z.cps[i]?).map fun c => V.bl (decide (48 ≤ c ∧ c ≤ 57))) ?_ ?_
  · exact le_szl _ (show z.length ≤ 16777216 by omega)
  · rintro i x H1 H2 hi le ⟨rfl, c, hc, rfl⟩ N hN
    have := hN H2 .refl
    rw [hc] at this
    refine ⟨rfl, _, rfl, c, _, rfl, rfl, ?_⟩
    have e : decide (c ∈ (("0123456789" : Str)).cps.toList) = decide (48 ≤ c ∧ c ≤ 57) := by
      rw [dig, decide_eq_decide]
      simp
      omega
    rw [e]
    exact this
  · intro H1 le e
    rw [fm_str z fun c => V.bl (decide (48 ≤ c ∧ c ≤ 57))] at e
    refine ⟨d, z.cps.toList.map fun c => decide (48 ≤ c ∧ c ≤ 57), rfl, .of (by rw [e, List.map_map]; rfl), _, rfl, ?_⟩
    have hall : (z.cps.toList.map fun c => decide (48 ≤ c ∧ c ≤ 57)).all id = true ↔ ∀ c ∈ z.cps.toList, 48 ≤ c ∧ c ≤ 57 := by
      rw [List.all_map, List.all_eq_true]
      exact ⟨fun h c hc => of_decide_eq_true (h c hc), fun h c hc => decide_eq_true (h c hc)⟩
    refine ite2 (fun c2 => ?_) (fun c2 => ?_)
    · refine q _ _ le ⟨fun h => (by cases h), fun h => ?_⟩
      rw [hall.mpr h.2.1] at c2
      cases c2
    have hd2 : ∀ c ∈ z.cps.toList, 48 ≤ c ∧ c ≤ 57 := hall.mp (by
      cases h : (z.cps.toList.map fun c => decide (48 ≤ c ∧ c ≤ 57)).all id with
      | true => rfl
      | false => rw [h] at c2; exact absurd rfl c2)
    refine ⟨_, rfl, rfl, _, rfl, ?_⟩
    show if decide (V.str z = V.str ("0" : Str)) = true then _ else _
    rw [str_dec z [48] "0" (by decide +kernel)]
    refine ite2 (fun c3 => ?_) (fun c3 => ?_)
    · exact q _ _ le ⟨fun _ => ⟨hne, hd2, .inl (of_decide_eq_true c3)⟩, fun _ => rfl⟩
    · cases hl : z.cps.toList with
      | nil => exact absurd hl hne
      | cons a r =>
        refine ⟨_, rfl, z, 0, a, rfl, rfl, hz1, by rw [hl]; exact atI_nat (j := 0) rfl, rfl, q _ _ le ?_⟩
        have e2 : decide (V.str ⟨#[a]⟩ = V.str ("0" : Str)) = decide (a = 48) := by
          rw [str_dec _ [48] "0" (by decide +kernel), decide_eq_decide]
          show [a] = [48] ↔ _
          simp
        show (!decide (V.str ⟨#[a]⟩ = V.str ("0" : Str))) = true ↔ _
        rw [e2]
        constructor
        · intro h
          refine ⟨hne, hd2, .inr ?_⟩
          rw [hl]
          intro e
          have : a = 48 := Option.some.inj e
          rw [decide_eq_true this] at h
          cases h
        · rintro ⟨_, _, h | h⟩
          · exact absurd (decide_eq_true h) c3
          · rw [hl] at h
            have : a ≠ 48 := fun e => h (by rw [e]; rfl)
            rw [decide_eq_false this]
            rfl
theorem c_is_number (T : Txt K mg) (F : DefOf K mg "is_number" s_is_number P_is_number) (C_is_count : Cal P w K mg base 1 "is_count" (sp_isL IsCnt) []) : Cal P w K mg base 2 "is_number" (sp_isL IsNum) [] := by
  obtain ⟨f, fd, F, B⟩ := F
  refine cal0 F B .nil sc_is_number (fun vs H Q E h => by obtain ⟨_, rfl, _⟩ := h; rfl) (fun cdv A outer s H vs Q E hr h => ?_)
  obtain ⟨z, rfl, hz, q⟩ := h
  have nd := sc_is_number.nd
  refine ⟨_, (pss_cons (ps_if (pt_cmpR op_eq (pe_slice sl_str (pv 0) po_none (po_some pe_int)) pe_str (nomark _)) (pss_one (ps_ret (pe_and (pe_c C_is_count hr (by decide) rfl (pa_cons (pe_slice sl_str (pv 0) (po_some pe_int) po_none) pa_nil)) (pe_one (pe_cmpR op_ne (pv 0) pe_str (nomark _)))))) pss_nil)
      (pss_one (ps_ret (pe_c C_is_count hr (by decide) rfl (pa_cons (pv 0) pa_nil))))), ?_⟩
  have hz1 : z.length ≤ sizeLine := le_szl _ (by omega)
  have c1 : (cutS z none (some 1)).cps.toList = z.cps.toList.take 1 := cutS_to z 1
  have c2 : (cutS z (some 1) none).cps.toList = z.cps.toList.drop 1 := cutS_from z 1
  refine ⟨_, rfl, _, rfl, _, rfl, hz1, rfl, _, rfl, ?_⟩
  show if decide (V.str (cutS z none (some 1)) = V.str ("-" : Str)) = true then _ else _
  rw [str_dec _ [45] "-" tl_dash, c1]
  refine ite2 (fun c => ?_) (fun c => ?_)
  · have h1 : z.cps.toList.take 1 = [45] := of_decide_eq_true c
    obtain ⟨r, hr⟩ : ∃ r, z.cps.toList = 45 :: r := by
      cases h : z.cps.toList with
      | nil => rw [h] at h1; cases h1
      | cons a r =>
        rw [h] at h1
        have : a = 45 := by simpa using h1
        exact ⟨r, by rw [this]⟩
    have hlen : (cutS z (some 1) none).length ≤ 1000000 := by
      have : (cutS z (some 1) none).length = (cutS z (some 1) none).cps.toList.length := by simp [Str.length]
      rw [this, c2, List.length_drop]
      have : z.length = z.cps.toList.length := by simp [Str.length]
      omega
    refine ⟨_, rfl, _, rfl, _, rfl, hz1, _, rfl, hlen, fun b H1 l1 hb => ?_⟩
    rw [c2, hr] at hb
    have hb : b = true ↔ IsCnt r := hb
    refine ⟨_, rfl, ?_⟩
    refine ite2 (fun c => ?_) (fun c => ?_)
    · refine ⟨_, rfl, rfl, q _ _ l1 ?_⟩
      show (!decide (V.str z = V.str ("-0" : Str))) = true ↔ _
      rw [str_dec z [45, 48] "-0" (by decide +kernel), hr]
      constructor
      · intro h
        refine .inl ⟨r, rfl, hb.mp c, fun e => ?_⟩
        rw [e] at h
        cases h
      · rintro (⟨r', e, _, h⟩ | h)
        · have : r = r' := by injection e
          subst this
          have : ¬ (45 :: r = [45, 48]) := fun e => h (by injection e)
          rw [decide_eq_false this]
          rfl
        · have := h.2.1 45 List.mem_cons_self
          omega
    · refine q _ _ l1 ⟨fun h => (by cases h), fun h => ?_⟩
      rw [hr] at h
      rcases h with ⟨r', e, h, _⟩ | h
      · have : r = r' := by injection e
        subst this
        exact absurd (hb.mpr h) c
      · have := h.2.1 45 List.mem_cons_self
        omega
  · have h1 : z.cps.toList.take 1 ≠ [45] := fun e => c (decide_eq_true e)
    refine ⟨_, rfl, z, rfl, hz, fun b H1 l1 hb => q _ _ l1 ?_⟩
    rw [hb]
    constructor
    · exact .inr
    · rintro (⟨r, e, _⟩ | h)
      · exact absurd (by rw [e]; rfl) h1
      · exact h
end
end Od
end
section
set_option Elab.async false
set_option linter.all false
set_option maxRecDepth 100000
set_option maxHeartbeats 2000000
set_option autoImplicit false
namespace Od
open PySem PySem.Spec PyProof.Rows L2 C8 Day
abbrev s_DaySet_read : Stmt := inClass (top 24) 7
abbrev N_DaySet_read : List Str := ["cls", "text", "words", "at", "word", "left", "low", "middle", "right"]
abbrev P_DaySet_read : List Str := ["cls", "text"]
theorem sc_DaySet_read : FnScope N_DaySet_read P_DaySet_read (C8.fnScope s_DaySet_read) := fnScope_by (by decide +kernel)
/-- the four words -/
def words4 (l : List Bool) (n : Int) (m r : List Bool) : List Str := [rowS l, numS n, midS m, rowS r]
theorem row_is {l : List Bool} (h : l ≠ []) : IsRowL (rowS l).cps.toList := by
  rw [rowS_tl]
  refine ⟨fun e => h (List.map_eq_nil_iff.mp e), fun c hc => ?_⟩
  obtain ⟨b, _, rfl⟩ := List.mem_map.mp hc
  cases b
  · exact .inl rfl
  · exact .inr rfl
theorem cnt_num (n : Nat) : IsCnt (TL.numL n) := by
  refine ⟨TL.numL_ne n, fun c hc => TL.numL_digits n c hc, ?_⟩
  by_cases h0 : n = 0
  · subst h0
    exact .inl (by rw [TL.numL_lt (by decide)])
  · right
    have h : ∀ n : Nat, n ≠ 0 → (TL.numL n).head? ≠ some 48 := by
      intro n
      induction n using Nat.strongRecOn with
      | _ n ih =>
        intro h0 e
        by_cases h : n < 10
        · rw [TL.numL_lt h] at e
          have : 48 + n = 48 := Option.some.inj e
          omega
        · rw [TL.numL_step (by omega)] at e
          have h2 := ih (n / 10) (by omega) (by omega)
          cases hl : TL.numL (n / 10) with
          | nil => exact TL.numL_ne _ hl
          | cons a r =>
            rw [hl] at e h2
            exact h2 e
    exact h n h0
theorem num_is (n : Int) : IsNum (numS n).cps.toList := by
  rw [numS_tl]
  by_cases h : n < 0
  · rw [if_pos h]
    refine .inl ⟨_, rfl, cnt_num _, fun e => ?_⟩
    have : TL.numL 0 = [48] := TL.numL_lt (by decide)
    rw [← this] at e
    have := TL.numL_inj e
    omega
  · rw [if_neg h]
    exact .inr (cnt_num _)
theorem int_numS {n : Int} (h : n.natAbs < 10 ^ 8) : intText? (numS n) = some n ∧ (numS n).length ≤ 640 := by
  have hl : (TL.numL n.natAbs).length ≤ 8 := TL.numL_len (by decide) h
  have hlen : (numS n).length ≤ 9 := numS_len (by decide) h
  refine ⟨?_, by omega⟩
  by_cases c : n < 0
  · have e : (numS n).cps.toList = 45 :: TL.numL n.natAbs := by rw [numS_tl, if_pos c]
    rw [intText_neg e (TL.numL_digits _) (TL.numL_ne _) (by omega), TL.numL_val]
    congr 1
    omega
  · have e : (numS n).cps.toList = TL.numL n.natAbs := by rw [numS_tl, if_neg c]
    rw [intText_digits (by rw [e]; exact TL.numL_digits _) (by rw [e]; exact TL.numL_ne _) (by omega), e, TL.numL_val]
    congr 1
    omega
theorem split4 (l : List Bool) (n : Int) (m r : List Bool) : Txt.split (Txt.join (" " : Str) (words4 l n m r)) (" " : Str) = words4 l n m r := by
  refine TL.split_join (s := 32) (S := []) tl_sp (by decide +kernel) (by simp [words4]) fun p hp => ?_
  simp only [words4, List.mem_cons, List.not_mem_nil, or_false] at hp
  rcases hp with rfl | rfl | rfl | rfl
  · exact sg_free (by decide) (by decide)
  · exact numS_free (.inl (by decide)) _
  · exact midS_free (by decide) (by decide) (by decide) _
  · exact sg_free (by decide) (by decide)
section
variable {P : Program} {w : World} {K : PySem.W.Frag} {mg : Str → Option Value} {base : Heap}
def sp_read (C : Addr) : Sp := fun vs H Q _ => ∃ (l : List Bool) (n : Int) (m r : List Bool), vs = [.ref C, .str (Txt.join (" " : Str) (words4 l n m r))] ∧ l ≠ [] ∧ r ≠ [] ∧ l.length ≤ 1000 ∧ m.length ≤ 1000 ∧ r.length ≤ 1000 ∧ n.natAbs < 10 ^ 8 ∧ (Txt.join (" " : Str) (words4 l n m r)).length ≤ 1000000 ∧
  ∀ p H', Le H H' → IsDay C H' p (Frm.mk l n m r).mem → H p = none → Q (.ref p) H'
theorem q_read {C : Addr} (T : Txt K mg) (D : DSC K mg C) (M : ClmOf K C "read" "DaySet.read" s_DaySet_read P_DaySet_read) (C_is_number : Cal P w K mg base 2 "is_number" (sp_isL IsNum) []) (C_is_row : Cal P w K mg base 1 "is_row" (sp_isL IsRowL) []) (M_DaySet : Mak P w K mg base 4 "DaySet" C (sp_init C) []) : CMt P w K mg base 6 C "read" (sp_read C) := by
  obtain ⟨mc, pp, g, fd, r, cm, F, B⟩ := M
  refine cmt0 r cm F B sc_DaySet_read (fun vs H Q E h => by obtain ⟨_, _, _, _, rfl, _⟩ := h; rfl) (fun cdv A outer s H vs Q E hr h => ?_)
  obtain ⟨l, n, m, r, rfl, l0, r0, ll, lm, lr, ln, lt, qq⟩ := h
  have nd := sc_DaySet_read.nd
  refine ⟨_, (C8.pss_cut (ps_set (i := 2) nd rfl (Or.inl rfl) (pe_ifExp (pt_cmpR op_ne (pv 1) pe_str (nomark _)) (pe_split (pv 1) pe_str) (pe_lst pa_nil)))
      (C8.pss_cut (ps_for PassesOwn.never rfl (pi_enum (by rfl) T.b_enumerate (pa_cons (pe_slice sl_list (pv 2) po_none (po_some pe_int)) pa_nil)) (pg_tup rfl (pgs_cons (pg_name (i := 3) nd rfl (Or.inl rfl)) (pgs_cons (pg_name (i := 4) nd rfl (Or.inl rfl)) pgs_nil))) (pss_one (ps_if (pt_not (pt_ifE (pt_cmpR op_eq (pv 3) pe_int (nomark _)) (pt_val (pe_c C_is_number hr (by decide) rfl (pa_cons (pv 4) pa_nil))) (PW.pt (pw_or (pt_val (pe_c C_is_row hr (by decide) rfl (pa_cons (pv 4) pa_nil))) (pw_or1 (PW.pt (pw_and (pt_cmpR op_eq (pv 3) pe_int (nomark _)) (pw_and1 (pt_cmpR op_eq (pv 4) pe_str (nomark _)))))))))) (pss_one ps_never) pss_nil)))
      (C8.pss_cut (ps_if (pt_cmpR op_ne (pe_callB call_len_seq (by rfl) T.b_len (by decide +kernel) (pa_cons (pv 2) pa_nil)) pe_int (nomark _)) (pss_one ps_never) pss_nil)
      (pss_cons (ps_asg (pv 2) (pg_lst rfl (pgs_cons (pg_name (i := 5) nd rfl (Or.inl rfl)) (pgs_cons (pg_name (i := 6) nd rfl (Or.inl rfl)) (pgs_cons (pg_name (i := 7) nd rfl (Or.inl rfl)) (pgs_cons (pg_name (i := 8) nd rfl (Or.inl rfl)) pgs_nil))))))
      (pss_one (ps_ret (pe_mk M_DaySet hr (by decide) rfl (pa_cons (pv 5) (pa_cons (pe_callTy call_int_str (by rfl) T.b_int (by decide +kernel) (pa_cons (pv 6) pa_nil)) (pa_cons (pe_ifExp (pt_cmpR op_eq (pv 7) pe_str (nomark _)) pe_str (pv 7)) (pa_cons (pv 8) pa_nil))))))))))), ?_⟩
  have hne : (Txt.join (" " : Str) (words4 l n m r)).cps.toList ≠ [] := fun e => by
    have h := split4 l n m r
    have e2 : Txt.join (" " : Str) (words4 l n m r) = ("" : Str) := TL.ext_tl (e.trans tl_nil.symm)
    rw [e2] at h
    have h2 := congrArg List.length h
    have : (Txt.split ("" : Str) (" " : Str)).length = 1 := by decide +kernel
    rw [this] at h2
    cases h2
  have sz : sizeLine = 16777216 := sizeLine_eq
  -- the words
  refine ⟨fun σ' H' => ∃ dw, Le H H' ∧ H' dw = some (.lst ((words4 l n m r).map V.str)) ∧ σ' = [some (.ref C), some (.str (Txt.join (" " : Str) (words4 l n m r))), some (.ref dw), none, none, none, none, none, none], ?_, ?_⟩
  · refine ⟨_, rfl, rfl, _, rfl, ?_⟩
    show if (!decide (V.str (Txt.join (" " : Str) (words4 l n m r)) = V.str ("" : Str))) = true then _ else _
    rw [str_dec _ [] "" tl_nil, decide_eq_false hne]
    refine ⟨_, rfl, ⟨_, rfl⟩, _, _, rfl, rfl, by decide +kernel, by omega, fun q hq => ?_⟩
    rw [split4]
    exact ⟨q, Le.new hq, upd_self, rfl⟩
  rintro σ' H1 ⟨dw, l1, e1, rfl⟩
  -- each is right
  refine ⟨fun σ' H' => Le H1 H' ∧ ∃ x3 x4, σ' = [some (.ref C), some (.str (Txt.join (" " : Str) (words4 l n m r))), some (.ref dw), x3, x4, none, none, none, none], ?_, ?_⟩
  · refine ⟨_, rfl, _, rfl, dw, _, rfl, .of e1, fun q hq => ?_⟩
    have ec : cutV ((words4 l n m r).map V.str) none (some 4) = (words4 l n m r).map V.str := by rfl
    rw [ec]
    have k1 := Le.new (o := .lst ((words4 l n m r).map V.str)) hq
    refine ⟨q, _, rfl, .of upd_self, ?_⟩
    refine for_it (walk_enum (K := K) (a := q) (xs := (words4 l n m r).map V.str)) (fun i σ' H' => Le (upd H1 q (.lst ((words4 l n m r).map V.str))) H' ∧ ∃ x3 x4, σ' = [some (.ref C), some (.str (Txt.join (" " : Str) (words4 l n m r))), some (.ref dw), x3, x4, none, none, none, none]) ?_ ?_ ?_ ?_
    · exact ⟨.refl, _, _, rfl⟩
    · rintro i σ' H' _ ⟨le, _⟩
      exact .of (le _ _ upd_self)
    · rintro i v σ' Ha Hb hi ⟨le, x3, x4, rfl⟩ ⟨Tt, x, y, rfl, hT, rfl, hx, hy⟩
      have hx : V.int (i : Nat) = x := Option.some.inj hx
      subst hx
      have leT := le.trans (Le.new (o := .tup [.int (i : Nat), y]) hT)
      have hy : ((words4 l n m r).map V.str)[i]? = some y := hy
      rw [List.getElem?_map] at hy
      obtain ⟨z, hz, rfl⟩ := Option.map_eq_some_iff.mp hy
      have zlen : z.length ≤ 1000000 := by
        have : z ∈ words4 l n m r := List.mem_of_getElem? hz
        simp only [words4, List.mem_cons, List.not_mem_nil, or_false] at this
        rcases this with rfl | rfl | rfl | rfl
        · rw [rowS_len]; omega
        · have := (int_numS ln).2; omega
        · unfold midS; split
          · decide +kernel
          · rw [rowS_len]; omega
        · rw [rowS_len]; omega
      refine ⟨Tt, _, rfl, .of upd_self, rfl, _, _, rfl, _, _, rfl, rfl, ?_⟩
      refine ⟨_, rfl, rfl, _, rfl, ?_⟩
      refine ite2 (fun c => ?_) (fun c => ?_)
      · have i1 : i = 1 := by
          have := of_decide_eq_true c
          injection this with this
          omega
        subst i1
        have hz : numS n = z := Option.some.inj hz
        subst hz
        refine ⟨_, rfl, _, rfl, zlen, fun b H3 l3 hb => ⟨_, rfl, ?_⟩⟩
        rw [hb.mpr (num_is n)]
        exact ⟨leT.trans l3, _, _, rfl⟩
      · refine ⟨_, rfl, _, rfl, zlen, fun b H3 l3 hb => ⟨_, rfl, ?_⟩⟩
        refine ite2 (fun c2 => ?_) (fun c2 => ?_)
        · exact ⟨leT.trans l3, _, _, rfl⟩
        have nrow : ¬ IsRowL z.cps.toList := fun h => c2 (hb.mpr h)
        have hi2 : i = 2 ∧ z = ("-" : Str) := by
          match i, hz with
          | 0, hz =>
            have hz : rowS l = z := Option.some.inj hz
            rw [← hz] at nrow
            exact absurd (row_is l0) nrow
          | 1, hz => exact absurd rfl c
          | 2, hz =>
            have hz : midS m = z := Option.some.inj hz
            refine ⟨rfl, ?_⟩
            rw [← hz] at nrow ⊢
            unfold midS at nrow ⊢
            by_cases hm : m = []
            · rw [if_pos hm]
            · rw [if_neg hm] at nrow
              exact absurd (row_is hm) nrow
          | 3, hz =>
            have hz : rowS r = z := Option.some.inj hz
            rw [← hz] at nrow
            exact absurd (row_is r0) nrow
          | i + 4, hz => simp [words4] at hz
        obtain ⟨rfl, rfl⟩ := hi2
        refine ⟨_, rfl, rfl, _, rfl, ?_⟩
        refine ⟨_, rfl, rfl, _, rfl, ?_⟩
        have : decide (V.str ("-" : Str) = V.str ("-" : Str)) = true := by rw [decide_eq_true rfl]
        show if (!decide (V.str ("-" : Str) = V.str ("-" : Str))) = true then _ else _
        rw [this]
        exact ⟨leT.trans l3, _, _, rfl⟩
    · rintro σ' H' ⟨le, h⟩
      exact ⟨k1.trans le, h⟩
  rintro σ' H2 ⟨l2, x3, x4, rfl⟩
  have e2 := l2 _ _ e1
  refine ⟨fun σ' H' => H' = H2 ∧ σ' = [some (.ref C), some (.str (Txt.join (" " : Str) (words4 l n m r))), some (.ref dw), x3, x4, none, none, none, none], ?_, ?_⟩
  · refine ⟨_, rfl, dw, _, rfl, .inl (.of e2), rfl, _, rfl, ?_⟩
    exact ⟨rfl, rfl⟩
  rintro σ' H3 ⟨rfl, rfl⟩
  refine ⟨_, rfl, dw, _, rfl, .of e2, rfl, ?_⟩
  refine ⟨_, _, rfl, _, _, rfl, _, _, rfl, _, _, rfl, rfl, ?_⟩
  have hmid : decide (V.str (midS m) = V.str ("-" : Str)) = decide (m = []) := by
    rw [str_dec _ [45] "-" tl_dash, decide_eq_decide, midS_tl]
    constructor
    · intro h
      by_cases c : m = []
      · exact c
      · rw [if_neg c] at h
        have : 45 ∈ m.map sg := by rw [h]; exact List.mem_cons_self
        exact absurd this (sg_free (by decide) (by decide))
    · intro h
      rw [if_pos h]
  refine ⟨_, rfl, _, rfl, _, n, rfl, (int_numS ln).1, (int_numS ln).2, _, rfl, rfl, _, rfl, ?_⟩
  show if decide (V.str (midS m) = V.str ("-" : Str)) = true then _ else _
  rw [hmid]
  have fin := make_day (C := C) (H := H3) (Q := Q) (E := C8.E0) l n m r (Frm.mk l n m r).mem l0 r0 (by omega) (by omega) (by omega) (fun _ => rfl) (fun p H' le hd h0 => qq p H' ((l1.trans l2).trans le) hd ((l1.trans l2).none h0))
  refine ite2 (fun c => ?_) (fun c => ?_)
  · have hm : m = [] := of_decide_eq_true c
    subst hm
    refine ⟨_, rfl, ?_⟩
    rw [rowS_nil] at fin
    exact fin
  · have hm : m ≠ [] := fun e => c (decide_eq_true e)
    refine ⟨_, rfl, _, rfl, ?_⟩
    have : midS m = rowS m := by unfold midS; rw [if_neg hm]
    rw [← this] at fin
    exact fin
end
end Od
end
section
set_option Elab.async false
set_option linter.all false
set_option maxRecDepth 100000
set_option maxHeartbeats 2000000
set_option autoImplicit false
/-! the law's own picks -/
namespace Od
open PySem PySem.Spec PyProof.Rows L2 C8
abbrev s__law_pick : Stmt := top 49
abbrev N__law_pick : List Str := ["_law_pen_here", "_law_options"]
abbrev P__law_pick : List Str := ["_law_pen_here", "_law_options"]
theorem sc__law_pick : FnScope N__law_pick P__law_pick (C8.fnScope s__law_pick) := fnScope_by (by decide +kernel)
section
variable {P : Program} {w : World} {K : PySem.W.Frag} {mg : Str → Option Value} {base : Heap}
def sp_pick : Sp := fun vs H Q _ => ∃ (d dl : Addr) (n : Int) (o : V), vs = [.ref d, o] ∧ IsPen H d dl n ∧ n ≤ 1000000000 ∧
  ((∃ z : Str, o = .str z ∧ 0 < z.length ∧ z.length ≤ 1000 ∧ ∀ c H', LeX d H H' → IsPen H' d dl (n + 1) → c ∈ z.cps.toList → Q (.str ⟨#[c]⟩) H') ∨
   (∃ (p : Addr) (xs : List V), o = .ref p ∧ H p = some (.lst xs) ∧ 0 < xs.length ∧ xs.length ≤ 1000000 ∧ ∀ v H', LeX d H H' → IsPen H' d dl (n + 1) → v ∈ xs → Q v H'))
theorem c_pick (T : Txt K mg) (F : DefOf K mg "_law_pick" s__law_pick P__law_pick) (C__law_draw : Cal P w K mg base 1 "_law_draw" sp_draw []) : Cal P w K mg base 2 "_law_pick" sp_pick [] := by
  obtain ⟨f, fd, F, B⟩ := F
  refine cal0 F B .nil sc__law_pick (fun vs H Q E h => by obtain ⟨_, _, _, _, rfl, _⟩ := h; rfl) (fun cdv A outer s H vs Q E hr h => ?_)
  obtain ⟨d, dl, n, o, rfl, pn, n1, h⟩ := h
  have nd := sc__law_pick.nd
  refine ⟨_, (pss_one (ps_ret (pe_ix ix_seq (pv 1) (pe_c C__law_draw hr (by decide) rfl (pa_cons (pv 0) (pa_cons (pe_callB call_len (by rfl) T.b_len (by decide +kernel) (pa_cons (pv 1) pa_nil)) pa_nil))) (fun _ _ => rfl)))), ?_⟩
  rcases h with ⟨z, rfl, z0, z1, q⟩ | ⟨p, xs, rfl, hp, x0, x1, q⟩
  · refine ⟨_, rfl, _, rfl, _, rfl, _, z.length, rfl, ⟨le_szl _ (by omega), rfl⟩, d, dl, _, n, rfl, pn, n1, by omega, lg9 _ (by omega) (by omega), fun r H1 l1 p1 r0 r1 => ?_⟩
    have ez : z.cps.toList.length = z.length := by simp [Str.length]
    obtain ⟨c, hc, e⟩ := at_mem (xs := z.cps.toList) r0 (by rw [ez]; exact r1)
    exact .inr (.inr ⟨z, r, c, rfl, rfl, le_szl _ (by omega), e, q c H1 l1 p1 hc⟩)
  · refine ⟨_, rfl, _, rfl, _, rfl, _, xs.length, rfl, .inl ⟨xs, .of hp, rfl⟩, d, dl, _, n, rfl, pn, n1, by omega, lg9 _ (by omega) (by omega), fun r H1 l1 p1 r0 r1 => ?_⟩
    obtain ⟨v, hv, e⟩ := at_mem (xs := xs) r0 r1
    exact .inl ⟨p, xs, r, v, rfl, rfl, .of (l1 _ _ (pn.ne hp) hp), e, q v H1 l1 p1 hv⟩
end
end Od
end
section
set_option Elab.async false
set_option linter.all false
set_option autoImplicit false
/-! the law's names: unlike ones -/
namespace Nam
def base (front : Nat) : List Nat := (List.range 23).map fun k => 97 + (front + 5 * k) % 23
theorem base_len (f : Nat) : (base f).length = 23 := by simp [base]
theorem base_all : ∀ f, f < 23 → (base f).Nodup ∧ ∀ c ∈ base f, 97 ≤ c ∧ c ≤ 119 := by
  have : ∀ f : Fin 23, (base f.val).Nodup ∧ ∀ c ∈ base f.val, 97 ≤ c ∧ c ≤ 119 := by decide +kernel
  exact fun f h => this ⟨f, h⟩
def way0 (B : List Nat) : List (List Nat) := B.map fun c => [c]
def way1 (st B : List Nat) : List (List Nat) := B.flatMap fun c => [st ++ [c], st ++ [c] ++ [120]]
def heads (B : List Nat) : List (List Nat) := B.zipIdx.map fun p => p.1 :: List.replicate (p.2 % 3) 119
def way2 (st B : List Nat) : List (List Nat) := (heads B ++ B.map fun c => 122 :: 122 :: [c]).map fun l => st ++ l
theorem nd0 {B : List Nat} (h : B.Nodup) : (way0 B).Nodup := by
  unfold way0
  rw [List.nodup_iff_pairwise_ne, List.pairwise_map]
  exact (List.nodup_iff_pairwise_ne.mp h).imp fun ne e => ne (by injection e)
theorem nd1 {st B : List Nat} (h : B.Nodup) : (way1 st B).Nodup := by
  unfold way1
  rw [List.nodup_iff_pairwise_ne, List.pairwise_flatMap]
  refine ⟨fun c _ => ?_, (List.nodup_iff_pairwise_ne.mp h).imp fun {c d} ne x hx y hy e => ?_⟩
  · simp
  · simp only [List.mem_cons, List.not_mem_nil, or_false] at hx hy
    rcases hx with rfl | rfl <;> rcases hy with rfl | rfl
    · have := List.append_cancel_left e
      exact ne (by injection this)
    · have := congrArg List.length e
      simp at this
    · have := congrArg List.length e
      simp at this
    · rw [List.append_assoc, List.append_assoc] at e
      have := List.append_cancel_left e
      exact ne (by injection this)
theorem nd_heads : ∀ (B : List Nat), B.Nodup → ∀ n, (B.zipIdx n |>.map fun p => p.1 :: List.replicate (p.2 % 3) 119).Nodup
  | [], _, _ => List.nodup_nil
  | c :: B, h, n => by
    have h' := List.nodup_cons.mp h
    rw [List.zipIdx_cons, List.map_cons, List.nodup_cons]
    refine ⟨fun hm => ?_, nd_heads B h'.2 (n + 1)⟩
    obtain ⟨p, hp, e⟩ := List.mem_map.mp hm
    have e1 : p.1 = c := by injection e
    have := List.mem_zipIdx hp
    exact h'.1 (by rw [← e1, this.2.2]; exact List.getElem_mem _)
theorem nd2 {st B : List Nat} (h : B.Nodup) (hB : ∀ c ∈ B, 97 ≤ c ∧ c ≤ 119) : (way2 st B).Nodup := by
  unfold way2
  rw [List.nodup_iff_pairwise_ne, List.pairwise_map]
  refine List.Pairwise.imp (R := fun a b => a ≠ b) (fun {a b} ne e => ne (List.append_cancel_left e)) (List.nodup_iff_pairwise_ne.mp ?_)
  rw [List.nodup_append]
  refine ⟨nd_heads B h 0, ?_, ?_⟩
  · rw [List.nodup_iff_pairwise_ne, List.pairwise_map]
    exact (List.nodup_iff_pairwise_ne.mp h).imp fun ne e => ne (by injection e with _ e; injection e with _ e; injection e)
  · intro a ha b hb e
    obtain ⟨p, hp, rfl⟩ := List.mem_map.mp ha
    obtain ⟨c, hc, rfl⟩ := List.mem_map.mp hb
    have e1 : p.1 = 122 := by injection e
    have := List.mem_zipIdx hp
    have h2 : p.1 ∈ B := by rw [this.2.2]; exact List.getElem_mem _
    have := (hB _ h2).2
    omega
theorem len1 (st B : List Nat) : (way1 st B).length = 2 * B.length := by
  unfold way1
  induction B with
  | nil => rfl
  | cons c B ih => rw [List.flatMap_cons, List.length_append, ih, List.length_cons]; simp; omega
theorem len2 (st B : List Nat) : (way2 st B).length = 2 * B.length := by
  unfold way2 heads
  simp
  omega
/-- letters and lengths -/
def Ok (l : List Nat) : Prop := (∀ c ∈ l, 97 ≤ c ∧ c ≤ 122) ∧ 1 ≤ l.length ∧ l.length ≤ 10
theorem ok0 {B : List Nat} (hB : ∀ c ∈ B, 97 ≤ c ∧ c ≤ 119) : ∀ l ∈ way0 B, Ok l := fun l hl => by
  obtain ⟨c, hc, rfl⟩ := List.mem_map.mp hl
  refine ⟨fun d hd => ?_, by simp, by simp⟩
  rw [List.mem_singleton.mp hd]
  have := hB c hc
  omega
theorem ok1 {st B : List Nat} (hs : ∀ c ∈ st, 97 ≤ c ∧ c ≤ 119) (hl : st.length ≤ 7) (hB : ∀ c ∈ B, 97 ≤ c ∧ c ≤ 119) : ∀ l ∈ way1 st B, Ok l := fun l hm => by
  obtain ⟨c, hc, h⟩ := List.mem_flatMap.mp hm
  have hc := hB c hc
  simp only [List.mem_cons, List.not_mem_nil, or_false] at h
  rcases h with rfl | rfl
  · refine ⟨fun d hd => ?_, by simp, by simp; omega⟩
    simp only [List.mem_append, List.mem_singleton] at hd
    rcases hd with h | h
    · have := hs d h; omega
    · omega
  · refine ⟨fun d hd => ?_, by simp, by simp; omega⟩
    simp only [List.mem_append, List.mem_singleton] at hd
    rcases hd with (h | h) | h
    · have := hs d h; omega
    · omega
    · omega
theorem ok2 {st B : List Nat} (hs : ∀ c ∈ st, 97 ≤ c ∧ c ≤ 119) (hl : st.length ≤ 7) (hB : ∀ c ∈ B, 97 ≤ c ∧ c ≤ 119) : ∀ l ∈ way2 st B, Ok l := fun l hm => by
  obtain ⟨m, hm2, rfl⟩ := List.mem_map.mp hm
  have key : (∀ c ∈ m, 97 ≤ c ∧ c ≤ 122) ∧ 1 ≤ m.length ∧ m.length ≤ 3 := by
    rcases List.mem_append.mp hm2 with h | h
    · obtain ⟨p, hp, rfl⟩ := List.mem_map.mp h
      have h1 := List.mem_zipIdx hp
      have h2 : p.1 ∈ B := by rw [h1.2.2]; exact List.getElem_mem _
      have h3 := hB _ h2
      refine ⟨fun c hc => ?_, by simp, by simp; omega⟩
      rcases List.mem_cons.mp hc with e | e
      · omega
      · have := List.eq_of_mem_replicate e
        omega
    · obtain ⟨c, hc, rfl⟩ := List.mem_map.mp h
      have h3 := hB c hc
      refine ⟨fun d hd => ?_, by simp, by simp⟩
      simp only [List.mem_cons, List.not_mem_nil, or_false] at hd
      omega
  refine ⟨fun c hc => ?_, by rw [List.length_append]; omega, by rw [List.length_append]; omega⟩
  rcases List.mem_append.mp hc with h | h
  · have := hs c h; omega
  · exact key.1 c h
/-- what is left when few are barred -/
theorem left_len {α : Type} [DecidableEq α] : ∀ {L : List α} {bar : List α}, L.Nodup → L.length ≤ (L.filter fun x => !decide (x ∈ bar)).length + bar.length
  | [], _, _ => Nat.zero_le _
  | x :: L, bar, h => by
    have h' := List.nodup_cons.mp h
    by_cases c : x ∈ bar
    · have ih := left_len (L := L) (bar := bar.erase x) h'.2
      have e : (L.filter fun y => !decide (y ∈ bar.erase x)) = L.filter fun y => !decide (y ∈ bar) := List.filter_congr fun y hy => by
        have ne : y ≠ x := fun e => h'.1 (by rw [← e]; exact hy)
        have q := @List.mem_erase_of_ne α _ _ y x bar ne
        simp only [q]
      rw [e, List.length_erase_of_mem c] at ih
      have := List.length_pos_of_mem c
      rw [List.filter_cons, if_neg (by simp [c]), List.length_cons]
      omega
    · have ih := left_len (L := L) (bar := bar) h'.2
      rw [List.filter_cons, if_pos (by simp [c]), List.length_cons, List.length_cons]
      omega
end Nam
end
section
set_option Elab.async false
set_option linter.all false
set_option maxRecDepth 100000
set_option maxHeartbeats 2000000
set_option autoImplicit false
/-! the law's own picks, orders, names -/
namespace Od
open PySem PySem.Spec PyProof.Rows L2 C8
abbrev s__law_shuffled : Stmt := top 50
abbrev N__law_shuffled : List Str := ["_law_pen_here", "_law_items", "_law_left", "_law_found"]
abbrev P__law_shuffled : List Str := ["_law_pen_here", "_law_items"]
theorem sc__law_shuffled : FnScope N__law_shuffled P__law_shuffled (C8.fnScope s__law_shuffled) := fnScope_by (by decide +kernel)
abbrev s__law_barred : Stmt := top 51
abbrev N__law_barred : List Str := []
abbrev P__law_barred : List Str := []
theorem sc__law_barred : FnScope N__law_barred P__law_barred (C8.fnScope s__law_barred) := fnScope_by (by decide +kernel)
abbrev s__law_names : Stmt := top 52
abbrev N__law_names : List Str := ["_law_pen_here", "_law_many", "_law_signs", "_law_stem", "_law_way", "_law_front", "_law_k", "_law_found", "_law_short", "_law_one", "_law_tails", "_law_at"]
abbrev P__law_names : List Str := ["_law_pen_here", "_law_many"]
theorem sc__law_names : FnScope N__law_names P__law_names (C8.fnScope s__law_names) := fnScope_by (by decide +kernel)
theorem seqIx {r : Int} {n : Nat} (h0 : 0 ≤ r) (h1 : r < n) : seqIndex? r n = some r.toNat := by
  unfold seqIndex?
  simp only [if_neg (show ¬ r < 0 by omega)]
  rw [if_pos]
  simp [h0, h1]
theorem erase_perm {α : Type} : ∀ (xs : List α) (i : Nat) (h : i < xs.length), xs.Perm (xs[i] :: xs.eraseIdx i)
  | [], _, h => absurd h (Nat.not_lt_zero _)
  | x :: xs, 0, _ => List.Perm.refl _
  | x :: xs, i + 1, h => ((erase_perm xs i (Nat.lt_of_succ_lt_succ h)).cons x).trans (List.Perm.swap _ _ _)
section
variable {P : Program} {w : World} {K : PySem.W.Frag} {mg : Str → Option Value} {base : Heap}
def sp_shuffled : Sp := fun vs H Q _ => ∃ (d dl a : Addr) (n : Int) (xs : List V), vs = [.ref d, .ref a] ∧ IsPen H d dl n ∧ n ≤ 900000000 ∧ SqL K H a xs ∧ xs.length ≤ 100000 ∧
  ∀ q ys H', LeX d H H' → IsPen H' d dl (n + xs.length) → H q = none → H' q = some (.lst ys) → ys.Perm xs → Q (.ref q) H'
theorem c_shuffled (T : Txt K mg) (F : DefOf K mg "_law_shuffled" s__law_shuffled P__law_shuffled) (C__law_draw : Cal P w K mg base 1 "_law_draw" sp_draw []) : Cal P w K mg base 2 "_law_shuffled" (sp_shuffled (K := K)) [] := by
  obtain ⟨f, fd, F, B⟩ := F
  refine cal0 F B .nil sc__law_shuffled (fun vs H Q E h => by obtain ⟨_, _, _, _, _, rfl, _⟩ := h; rfl) (fun cdv A outer s H vs Q E hr h => ?_)
  obtain ⟨d, dl, a, n, xs, rfl, pn, n1, ha, hl, qq⟩ := h
  have nd := sc__law_shuffled.nd
  refine ⟨_, (pss_cons (ps_par (i := 2) (j := 3) (by rfl) nd rfl rfl (by decide) rfl rfl (pa_cons (pe_callTy call_list_of (by rfl) T.b_list (by decide +kernel) (pa_cons (pv 1) pa_nil)) (pa_cons (pe_lst pa_nil) pa_nil)) (by rfl))
      (C8.pss_cut (ps_while PassesOwn.never (pt_cmpR (op_neE hr.units) (pv 2) (pe_lst pa_nil) (nomark _)) (pss_one (ps_expr (pe_bm PySem.F.plainAttrs_list PySem.F.slot_list_append PySem.F.type_list_append mt_append (pv 3) (pa_cons (pe_bm PySem.F.plainAttrs_list PySem.F.slot_list_pop PySem.F.type_list_pop mt_popAt (pv 2) (pa_cons (pe_c C__law_draw hr (by decide) rfl (pa_cons (pv 0) (pa_cons (pe_callB call_len_seq (by rfl) T.b_len (by decide +kernel) (pa_cons (pv 2) pa_nil)) pa_nil))) pa_nil)) pa_nil)))))
      (pss_one (ps_ret (pv 3))))), ?_⟩
  refine ⟨_, rfl, a, xs, rfl, .inl ha, fun l nl => ?_⟩
  refine ⟨Nat.zero_le _, fun l2 nl2 => ?_⟩
  have le0 : Le H (upd (upd H l (.lst xs)) l2 (.lst [])) := (Le.new nl).trans (Le.new nl2)
  have e1 : upd (upd H l (.lst xs)) l2 (.lst []) l = some (.lst xs) := (Le.new nl2) _ _ upd_self
  have e2 : upd (upd H l (.lst xs)) l2 (.lst []) l2 = some (.lst []) := upd_self
  have hl2 : H l2 = none := (Le.new nl).none nl2
  have ne : l ≠ l2 := ne_of_new nl2 upd_self
  have nl1 : l ≠ d := ne_of_new' nl pn.dict
  have nl3 : l2 ≠ d := ne_of_new' hl2 pn.dict
  generalize upd (upd H l (.lst xs)) l2 (.lst []) = H0 at le0 e1 e2 ⊢
  refine ⟨_, _, rfl, ?_⟩
  refine ⟨fun σ' H' => ∃ ys, LeX d H H' ∧ IsPen H' d dl (n + xs.length) ∧ H' l2 = some (.lst ys) ∧ ys.Perm xs ∧ σ' = [some (.ref d), some (.ref a), some (.ref l), some (.ref l2)], ?_, ?_⟩
  rotate_left
  · rintro σ' H' ⟨ys, lx, p1, e, pm, rfl⟩
    exact ⟨_, rfl, qq l2 ys H' lx p1 hl2 e pm⟩
  refine ⟨fun m σ' H' => ∃ xs1 ys1 : List V, m = xs1.length ∧ LeX d H H' ∧ IsPen H' d dl (n + ys1.length) ∧ H' l = some (.lst xs1) ∧ H' l2 = some (.lst ys1) ∧ (xs1 ++ ys1).Perm xs ∧ σ' = [some (.ref d), some (.ref a), some (.ref l), some (.ref l2)], ⟨_, xs, [], rfl, le0.x, (pn.le le0).mono (by simp), e1, e2, by simp, rfl⟩, ?_⟩
  rintro m σ' H1 ⟨xs1, ys1, rfl, lx, p1, h1, h2, pm, rfl⟩
  have hlen := pm.length_eq
  rw [List.length_append] at hlen
  refine ⟨_, rfl, Nat.zero_le _, fun q1 nq1 => ?_⟩
  have lq : Le H1 (upd H1 q1 (.lst [])) := Le.new nq1
  have eq1 : upd H1 q1 (.lst []) q1 = some (.lst []) := upd_self
  generalize upd H1 q1 (.lst []) = H2 at lq eq1 ⊢
  refine ⟨l, q1, _, _, rfl, rfl, .of (lq _ _ h1), .of eq1, .inr rfl, _, rfl, ?_⟩
  refine ite2 (fun c => ?_) (fun c => ?_)
  · have hne : xs1 ≠ [] := fun e => by rw [e] at c; cases c
    have hpos := List.length_pos_iff.mpr hne
    refine ⟨fun σ2 H3 => ∃ xs2 ys2 : List V, xs2.length < xs1.length ∧ LeX d H H3 ∧ IsPen H3 d dl (n + ys2.length) ∧ H3 l = some (.lst xs2) ∧ H3 l2 = some (.lst ys2) ∧ (xs2 ++ ys2).Perm xs ∧ σ2 = [some (.ref d), some (.ref a), some (.ref l), some (.ref l2)], fun σ2 H3 ⟨xs2, ys2, g1, g2, g3, g4, g5, g6, g7⟩ => ⟨_, g1, xs2, ys2, rfl, g2, g3, g4, g5, g6, g7⟩, ?_⟩
    refine ⟨_, rfl, .inl ⟨rfl, _, SqL.of (lq _ _ h2)⟩, _, rfl, .inl ⟨rfl, _, SqL.of (lq _ _ h1)⟩, _, rfl, _, rfl, l, xs1, rfl, .inl (.of (lq _ _ h1)), ?_⟩
    refine ⟨d, dl, _, _, rfl, p1.le lq, by omega, by omega, lg9 _ (by omega) (by omega), fun r H3 l3 p3 r0 r1 => ?_⟩
    have h13 := l3 _ _ nl1 (lq _ _ h1)
    have h23 := l3 _ _ nl3 (lq _ _ h2)
    have hr : r.toNat < xs1.length := by omega
    refine ⟨l, xs1, r, r.toNat, xs1[r.toNat], rfl, rfl, h13, by omega, by omega, seqIx r0 r1, List.getElem?_eq_getElem hr, ?_⟩
    refine ⟨l2, ys1, _, rfl, rfl, by rw [upd_ne ne.symm]; exact h23, le_szl' (by omega), ?_⟩
    refine ⟨xs1.eraseIdx r.toNat, ys1 ++ [xs1[r.toNat]], by rw [List.length_eraseIdx]; simp [hr]; omega, ?_, ?_, by rw [upd_ne ne, upd_self], upd_self, ?_, rfl⟩
    · intro b o hb h
      have nb : b ≠ l := fun e => by rw [e] at h; rw [h] at nl; cases nl
      have nb2 : b ≠ l2 := fun e => by rw [e] at h; rw [h] at hl2; cases hl2
      rw [upd_ne nb2, upd_ne nb]
      exact l3 _ _ hb (lq _ _ (lx b o hb h))
    · obtain ⟨cells, t, x, g1, g2, g3⟩ := p3
      have k1 : d ≠ l := nl1.symm
      have k2 : d ≠ l2 := nl3.symm
      have k3 : dl ≠ l := fun e => by
        obtain ⟨_, _, _, _, z, _⟩ := pn
        rw [e, nl] at z; cases z
      have k4 : dl ≠ l2 := fun e => by
        obtain ⟨_, _, _, _, z, _⟩ := pn
        rw [e, hl2] at z; cases z
      refine ⟨cells, t, x, by rw [upd_ne k2, upd_ne k1]; exact g1, by rw [upd_ne k4, upd_ne k3]; exact g2, g3.1, g3.2.1, ?_⟩
      rw [List.length_append]
      have := g3.2.2
      simp
      omega
    · refine List.Perm.trans ?_ pm
      have e := erase_perm xs1 r.toNat hr
      refine List.Perm.trans ?_ (e.append_right ys1).symm
      rw [← List.append_assoc]
      exact List.perm_append_singleton _ _
  · have he : xs1 = [] := by
      cases h : xs1 with
      | nil => rfl
      | cons u v => rw [h] at c; exact absurd rfl c
    subst he
    rw [List.nil_append] at pm
    have e3 := pm.length_eq
    exact ⟨ys1, fun b o hb h => lq _ _ (lx b o hb h), (p1.le lq).mono (by omega), lq _ _ h2, pm, rfl⟩
/-! ### names -/
def barL : Row := ["chain", "from", "to", "by", "and", "or", "always", "never"]
def sp_barred : Sp := fun vs H Q _ => vs = [] ∧ ∀ p H', Le H H' → H p = none → H' p = some (.lst (barL.map V.str)) → Q (.ref p) H'
theorem c_barred (T : Txt K mg) (F : DefOf K mg "_law_barred" s__law_barred P__law_barred) : Cal P w K mg base 1 "_law_barred" sp_barred [] := by
  obtain ⟨f, fd, F, B⟩ := F
  refine cal0 F B .nil sc__law_barred (fun vs H Q E h => by obtain ⟨rfl, _⟩ := h; rfl) (fun cdv A outer s H vs Q E hr h => ?_)
  obtain ⟨rfl, q⟩ := h
  have nd := sc__law_barred.nd
  refine ⟨_, (pss_one (ps_ret (pe_lst (pa_cons pe_str (pa_cons pe_str (pa_cons pe_str (pa_cons pe_str (pa_cons pe_str (pa_cons pe_str (pa_cons pe_str (pa_cons pe_str pa_nil))))))))))), ?_⟩
  exact ⟨le_szl 8 (by decide), fun p np => q p _ (Le.new np) np upd_self⟩
def sgL : Str := "abcdefghijklmnopqrstuvw"
theorem sgL_len : sgL.length = 23 := by decide +kernel
theorem sgL_mem : ∀ c ∈ sgL.cps.toList, 97 ≤ c ∧ c ≤ 119 := by decide +kernel
theorem sgL_at {r : Int} (h0 : 0 ≤ r) (h1 : r < 23) : atI sgL.cps.toList r = some (97 + r.toNat) := by
  have : ∀ j : Fin 23, sgL.cps.toList[j.val]? = some (97 + j.val) := by decide +kernel
  have h := atI_nat (xs := sgL.cps.toList) (j := r.toNat) (this ⟨r.toNat, by omega⟩)
  rwa [show ((r.toNat : Nat) : Int) = r by omega] at h
def nmV (l : List Nat) : V := .str (SX.S l)
theorem cat_S (a b : List Nat) : SX.S a ++ SX.S b = SX.S (a ++ b) := SX.S_cat a b
theorem perm_str {ys : List V} {r : Row} (h : ys.Perm (r.map V.str)) : ∃ r' : Row, r'.Perm r ∧ ys = r'.map V.str := by
  let g : V → Option Str := fun v => match v with | .str z => some z | _ => none
  have e1 : (r.map V.str).filterMap g = r := by rw [List.filterMap_map]; exact List.filterMap_some
  have hp := h.filterMap g
  rw [e1] at hp
  refine ⟨ys.filterMap g, hp, ?_⟩
  have hall : ∀ v ∈ ys, ∃ z, v = V.str z := fun v hv => by
    obtain ⟨z, _, rfl⟩ := List.mem_map.mp (h.mem_iff.mp hv)
    exact ⟨z, rfl⟩
  clear h hp e1
  induction ys with
  | nil => rfl
  | cons v ys ih =>
    obtain ⟨z, rfl⟩ := hall v List.mem_cons_self
    rw [List.filterMap_cons]
    show V.str z :: ys = V.str z :: List.map V.str (ys.filterMap g)
    rw [← ih fun v hv => hall v (List.mem_cons_of_mem _ hv)]
theorem cutV_to (xs : List V) (n : Nat) : cutV xs none (some (n : Int)) = xs.take n := by
  unfold cutV
  rw [HT.sIx_none, HT.sIx_nat, List.drop_zero, Nat.sub_zero]
  by_cases c : n ≤ xs.length
  · rw [Nat.min_eq_left c]
  · rw [Nat.min_eq_right (by omega), List.take_of_length_le (by omega), List.take_of_length_le (by omega)]
/-- what the names are like -/
def GoodNames (r : Row) : Prop := r.Nodup ∧ ∀ z ∈ r, Nm z ∧ z ∉ barL ∧ 1 ≤ z.length
theorem good_of {L : List (List Nat)} (nd : L.Nodup) (ok : ∀ l ∈ L, Nam.Ok l) : (L.map SX.S).Nodup ∧ ∀ z ∈ L.map SX.S, Nm z ∧ 1 ≤ z.length := by
  refine ⟨?_, fun z hz => ?_⟩
  · rw [List.nodup_iff_pairwise_ne, List.pairwise_map]
    exact (List.nodup_iff_pairwise_ne.mp nd).imp fun ne e => ne (SX.S_inj e)
  · obtain ⟨l, hl, rfl⟩ := List.mem_map.mp hz
    obtain ⟨h1, h2, h3⟩ := ok l hl
    exact ⟨⟨h1, by rw [SX.S_len]; omega⟩, by rw [SX.S_len]; exact h2⟩
def sp_names : Sp := fun vs H Q _ => ∃ (d dl : Addr) (n : Int) (many : Nat), vs = [.ref d, .int (many : Int)] ∧ IsPen H d dl n ∧ n ≤ 800000000 ∧ many ≤ 1000 ∧
  ∀ q (r : Row) H', LeX d H H' → IsPen H' d dl (n + 100) → H q = none → IsRow H' q r → GoodNames r → r.length ≤ many → (many ≤ 15 → r.length = many) → Q (.ref q) H'
theorem c_names (T : Txt K mg) (F : DefOf K mg "_law_names" s__law_names P__law_names) (C__law_draw : Cal P w K mg base 1 "_law_draw" sp_draw []) (C__law_pick : Cal P w K mg base 2 "_law_pick" sp_pick []) (C__law_barred : Cal P w K mg base 1 "_law_barred" sp_barred [])
    (C__law_shuffled : Cal P w K mg base 2 "_law_shuffled" (sp_shuffled (K := K)) []) : Cal P w K mg base 3 "_law_names" sp_names [] := by
  obtain ⟨f, fd, F, B⟩ := F
  refine cal0 F B .nil sc__law_names (fun vs H Q E h => by obtain ⟨_, _, _, _, rfl, _⟩ := h; rfl) (fun cdv A outer s H vs Q E hr h => ?_)
  obtain ⟨d, dl, n, many, rfl, pn, n1, m1, qq⟩ := h
  have nd := sc__law_names.nd
  refine ⟨_, (pss_cons (ps_asg (pe_tup (pa_cons pe_str (pa_cons pe_str pa_nil))) (pg_tup rfl (pgs_cons (pg_name (i := 2) nd rfl (Or.inr rfl)) (pgs_cons (pg_name (i := 3) nd rfl (Or.inr rfl)) pgs_nil))))
      (pss_cons (ps_asg (pe_tup (pa_cons (pe_c C__law_draw hr (by decide) rfl (pa_cons (pv 0) (pa_cons pe_int pa_nil))) (pa_cons (pe_c C__law_draw hr (by decide) rfl (pa_cons (pv 0) (pa_cons pe_int pa_nil))) pa_nil))) (pg_tup rfl (pgs_cons (pg_name (i := 4) nd rfl (Or.inl rfl)) (pgs_cons (pg_name (i := 5) nd rfl (Or.inr rfl)) pgs_nil))))
      (C8.pss_cut (ps_for PassesOwn.never rfl (pi_range1 (by rfl) T.b_range (pa_cons (pe_op op_mul (pe_c C__law_draw hr (by decide) rfl (pa_cons (pv 0) (pa_cons pe_int pa_nil))) (pe_callTy call_int1 (by rfl) T.b_int (by decide +kernel) (pa_cons (pe_cmpR op_gt (pv 4) pe_int (nomark _)) pa_nil))) pa_nil)) (pg_name (i := 6) nd rfl (Or.inl rfl)) (pss_one (ps_set (i := 3) nd rfl (Or.inr rfl) (pe_op op_add_str (pv 3) (pe_c C__law_pick hr (by decide) rfl (pa_cons (pv 0) (pa_cons (pv 2) pa_nil)))))))
      (pss_cons (ps_setLc (i := 7) (own := [("_law_k", 6)]) (g := gName 6) (by rfl) nd rfl rfl (sw_true rfl rfl rfl (by decide +kernel)) (pi_range1 (by rfl) T.b_range (pa_cons pe_int pa_nil)) (blkOk_by (own := [("_law_k", 6)]) (N := N__law_names) (sc := C8.fnScope s__law_names) (by decide +kernel)) (fun _ _ _ _ _ => pg_name (i := 6) nd rfl (Or.inl rfl)) (fun _ _ _ _ _ => pts_nil) (fun _ _ _ _ _ => (pe_ix ix_str (pv 2) (pe_op op_mod (pe_callTy call_int1 (by rfl) T.b_int (by decide +kernel) (pa_cons (pe_op op_add (pv 5) (pe_op op_mul pe_int (pv 6))) pa_nil)) pe_int) (fun _ _ => rfl))))
      (C8.pss_cut (ps_if (pt_cmpR op_eq (pv 4) pe_int (nomark _)) (pss_cons (ps_par (i := 8) (j := 7) (by rfl) nd rfl rfl (by decide) rfl rfl (pa_cons (pv 7) (pa_cons (pe_lst pa_nil) pa_nil)) (by rfl))
      (pss_one (ps_for PassesOwn.never rfl (pi_list (pv 8)) (pg_name (i := 9) nd rfl (Or.inl rfl)) (pss_one (ps_expr (pe_bm PySem.F.plainAttrs_list PySem.F.slot_list_extend PySem.F.type_list_extend mt_extend (pv 7) (pa_cons (pe_lst (pa_cons (pe_op op_add_str (pv 3) (pv 9)) (pa_cons (pe_op op_add_str (pe_op op_add_str (pv 3) (pv 9)) pe_str) pa_nil))) pa_nil))))))) pss_nil)
      (C8.pss_cut (ps_if (pt_cmpR op_eq (pv 4) pe_int (nomark _)) (pss_cons (ps_setLc (i := 10) (own := [("_law_one", 9)]) (g := gName 9) (by rfl) nd rfl rfl (sw_true rfl rfl rfl (by decide +kernel)) (pi_list (pv 7)) (blkOk_by (own := [("_law_one", 9)]) (N := N__law_names) (sc := C8.fnScope s__law_names) (by decide +kernel)) (fun _ _ _ _ _ => pg_name (i := 9) nd rfl (Or.inl rfl)) (fun _ _ _ _ _ => pts_nil) (fun _ _ _ _ _ => (pe_op op_add_str pe_str (pv 9))))
      (pss_one (ps_setLc (i := 7) (own := [("_law_one", 9)]) (g := gName 9) (by rfl) nd rfl rfl (sw_true rfl rfl rfl (by decide +kernel)) (pi_list (pe_op op_cat (pe_lc (own := [("_law_at", 11), ("_law_one", 9)]) (g := (gTup K 2 (gCons (gName 11) (gCons (gName 9) gNil)))) (by rfl) nd (pi_enum (by rfl) T.b_enumerate (pa_cons (pv 7) pa_nil)) (blkOk_by (own := [("_law_at", 11), ("_law_one", 9)]) (N := N__law_names) (sc := C8.fnScope s__law_names) (by decide +kernel)) (fun _ _ _ _ _ => (pg_tupK (K := K) rfl rfl (pgs_cons (pg_name (i := 11) nd rfl (Or.inl rfl) (Or.inr rfl)) (pgs_cons (pg_name (i := 9) nd rfl (Or.inl rfl) (Or.inr rfl)) pgs_nil)))) (fun _ _ _ _ _ => pts_nil) (fun _ _ _ _ _ => (pe_op op_add_str (pv 9) (pe_op op_mulS pe_str (pe_op op_mod (pe_callTy call_int1 (by rfl) T.b_int (by decide +kernel) (pa_cons (pv 11) pa_nil)) pe_int))))) (pv 10))) (blkOk_by (own := [("_law_one", 9)]) (N := N__law_names) (sc := C8.fnScope s__law_names) (by decide +kernel)) (fun _ _ _ _ _ => pg_name (i := 9) nd rfl (Or.inl rfl)) (fun _ _ _ _ _ => pts_nil) (fun _ _ _ _ _ => (pe_op op_add_str (pv 3) (pv 9)))))) pss_nil)
      (pss_cons (ps_set (i := 7) nd rfl (Or.inl rfl) (pe_slice sl_list (pe_lc (own := [("_law_one", 9)]) (g := gName 9) (by rfl) nd (pi_list (pv 7)) (blkOk_by (own := [("_law_one", 9)]) (N := N__law_names) (sc := C8.fnScope s__law_names) (by decide +kernel)) (fun _ _ _ _ _ => pg_name (i := 9) nd rfl (Or.inl rfl)) (fun _ _ _ _ _ => pts_one (pt_cmpR (opR_K (K := K) (r := fun K => rIn K true) rfl op_notIn_seq) (pv 9) (pe_c0 C__law_barred hr (by decide) rfl) (by rfl))) (fun _ _ _ _ _ => (pv 9))) po_none (po_some (pv 1))))
      (pss_one (ps_ret (pe_c C__law_shuffled hr (by decide) rfl (pa_cons (pv 0) (pa_cons (pv 7) pa_nil)))))))))))), ?_⟩
  -- signs, stem
  refine ⟨le_szl 2 (by decide), fun t nt => ?_⟩
  have l1 : Le H (upd H t (.tup [.str "abcdefghijklmnopqrstuvw", .str ""])) := Le.new nt
  refine ⟨t, _, rfl, .of upd_self, rfl, ?_⟩
  refine ⟨_, _, rfl, _, _, rfl, rfl, ?_⟩
  have p1 := pn.le l1
  generalize upd H t (.tup [.str "abcdefghijklmnopqrstuvw", .str ""]) = H1 at l1 p1 ⊢
  -- way, front
  refine ⟨_, rfl, d, dl, 3, n, rfl, p1, by omega, by decide, lg9 3 (by decide) (by decide), fun way H2 l2 p2 w0 w1 => ?_⟩
  refine ⟨_, rfl, d, dl, 23, _, rfl, p2, by omega, by decide, lg9 23 (by decide) (by decide), fun front H3 l3 p3 f0 f1 => ?_⟩
  refine ⟨le_szl 2 (by decide), fun t2 nt2 => ?_⟩
  refine ⟨t2, _, rfl, .of upd_self, rfl, ?_⟩
  refine ⟨_, _, rfl, _, _, rfl, rfl, ?_⟩
  have l4 : LeX d H (upd H3 t2 (.tup [.int way, .int front])) := ((l1.x.tr l2).tr l3).tr (Le.new nt2).x
  have p4 := p3.le (Le.new (o := .tup [.int way, .int front]) nt2)
  generalize upd H3 t2 (.tup [.int way, .int front]) = H4 at l4 p4 ⊢
  -- the stem
  refine ⟨fun σ' H' => ∃ (st : List Nat) (x6 : Option V), LeX d H H' ∧ IsPen H' d dl (n + 20) ∧ st.length ≤ 7 ∧ (∀ c ∈ st, 97 ≤ c ∧ c ≤ 119) ∧ σ' = [some (.ref d), some (.int many), some (.str sgL), some (nmV st), some (.int way), some (.int front), x6, none, none, none, none, none], ?_, ?_⟩
  · refine ⟨_, rfl, d, dl, 8, _, rfl, p4, by omega, by decide, lg9 8 (by decide) (by decide), fun r H5 l5 p5 r0 r1 => ?_⟩
    refine ⟨_, rfl, _, _, rfl, rfl, .inr ⟨decide ((0 : Int) < way), rfl, ?_⟩⟩
    refine ⟨_, _, rfl, rfl, .inl ⟨by omega, by omega⟩, ?_⟩
    have hm : 0 ≤ r * (if decide ((0 : Int) < way) = true then 1 else 0) ∧ r * (if decide ((0 : Int) < way) = true then 1 else 0) ≤ 7 := by split <;> omega
    refine ⟨_, rfl, by omega, by omega, ?_⟩
    refine for_it walk_range (fun i σ' H' => ∃ (st : List Nat) (x6 : Option V), LeX d H H' ∧ IsPen H' d dl (n + 3 + (i : Nat)) ∧ st.length ≤ i ∧ (∀ c ∈ st, 97 ≤ c ∧ c ≤ 119) ∧ σ' = [some (.ref d), some (.int many), some (.str sgL), some (nmV st), some (.int way), some (.int front), x6, none, none, none, none, none]) ?_ (fun _ _ _ _ _ => trivial) ?_ ?_
    · exact ⟨[], _, l4.tr l5, p5.mono (by simp; omega), Nat.le_refl _, fun c hc => (by cases hc), rfl⟩
    · rintro i x σ' Ha Hb hi ⟨st, x6, lx, pb, sl, sc, rfl⟩ ⟨rfl, rfl⟩
      refine ⟨_, rfl, _, rfl, _, rfl, d, dl, _, _, rfl, pb, by omega, .inl ⟨sgL, rfl, by rw [sgL_len]; decide, by rw [sgL_len]; decide, fun c H6 l6 p6 hc => ?_⟩⟩
      refine ⟨SX.S st, _, rfl, rfl, le_szl _ (by rw [SX.S_len]; show st.length + 1 ≤ _; omega), ?_⟩
      refine ⟨st ++ [c], some (.int (0 + (i : Nat))), lx.tr l6, p6.mono (by rw [Int.natCast_add]; simp; omega), by rw [List.length_append]; simp; omega, fun e he => ?_, ?_⟩
      · rcases List.mem_append.mp he with h | h
        · exact sc e h
        · rw [List.mem_singleton.mp h]; exact sgL_mem c hc
      · unfold nmV
        rw [← cat_S]
        rfl
    · rintro σ' H' ⟨st, x6, lx, pb, sl, sc, rfl⟩
      exact ⟨st, x6, lx, pb.mono (by omega), by omega, sc, rfl⟩
  rintro σ' H5 ⟨st, x6, l5, p5, sl, sc, rfl⟩
  -- the letters
  obtain ⟨fr, rfl⟩ : ∃ fr : Nat, front = (fr : Int) := ⟨front.toNat, by omega⟩
  have hfr : fr < 23 := by omega
  obtain ⟨bnd, ball⟩ := Nam.base_all fr hfr
  refine ⟨_, rfl, by decide, by decide, fun D nD => ?_⟩
  refine lc_pure walk_range nD (le_szl 23 (by decide)) (fun _ _ => trivial) yfn_le (fun i => some (nmV [97 + (fr + 5 * i) % 23])) ?_ ?_
  · rintro i x H6 H7 hi le ⟨rfl, rfl⟩ N hN
    refine ⟨rfl, ?_⟩
    have e : ((fr : Int) + 5 * (0 + (i : Nat))) % 23 = (((fr + 5 * i) % 23 : Nat) : Int) := by omega
    refine ⟨_, rfl, _, rfl, _, rfl, _, _, rfl, rfl, .inl ⟨by decide, by decide⟩, _, _, rfl, rfl, .inl ⟨_, rfl, _, _, rfl, rfl, (show (0 : Int) < 23 by decide), _, _, 97 + (fr + 5 * i) % 23, rfl, rfl, le_szl _ (show sgL.length ≤ _ by rw [sgL_len]; decide), ?_, ?_⟩⟩
    · rw [e, sgL_at (by omega) (by omega), Int.toNat_natCast]
    · exact hN _ .refl
  intro H6 l6 e6
  have e6 : H6 D = some (.lst ((Nam.way0 (Nam.base fr)).map nmV)) := by
    rw [e6]
    unfold Nam.way0 Nam.base
    rw [List.map_map, List.map_map, List.filterMap_eq_map']
    rfl
  have p6 := p5.le l6
  have l6 := l5.tr l6.x
  generalize hB : Nam.base fr = B at *
  have hBl : B.length = 23 := by rw [← hB]; exact Nam.base_len fr
  -- the first way
  refine ⟨fun σ' H' => ∃ (p : Addr) (x8 x9 : Option V), LeX d H H' ∧ IsPen H' d dl (n + 20) ∧ H' p = some (.lst ((if way = 1 then Nam.way1 st B else Nam.way0 B).map nmV)) ∧ σ' = [some (.ref d), some (.int many), some (.str sgL), some (nmV st), some (.int way), some (.int fr), x6, some (.ref p), x8, x9, none, none], ?_, ?_⟩
  · refine ⟨_, rfl, rfl, _, rfl, ?_⟩
    refine ite2 (fun c => ?_) (fun c => ?_)
    · have hw : way = 1 := by have := of_decide_eq_true c; injection this
      subst hw
      refine ⟨_, rfl, Nat.zero_le _, fun q nq => ⟨_, _, rfl, ?_⟩⟩
      have eq0 : upd H6 q (.lst []) q = some (.lst []) := upd_self
      have lq : Le H6 (upd H6 q (.lst [])) := Le.new nq
      have nqD : D ≠ q := ne_of_new nq e6
      have hq : H q = none := by
        cases h : H q with
        | none => rfl
        | some o =>
          have := l6 q o (ne_of_new' nq p6.dict) h
          rw [nq] at this; cases this
      refine ⟨_, rfl, D, rfl, ⟨_, .of (lq _ _ e6)⟩, ?_⟩
      refine for_it (walk_list (xs := (Nam.way0 B).map nmV)) (fun j σ' H' => ∃ x9, LeX q H6 H' ∧ H' q = some (.lst ((Nam.way1 st (B.take j)).map nmV)) ∧ σ' = [some (.ref d), some (.int many), some (.str sgL), some (nmV st), some (.int 1), some (.int fr), x6, some (.ref q), some (.ref D), x9, none, none]) ?_ ?_ ?_ ?_
      · exact ⟨_, fun b o c h => lq _ _ h, eq0, rfl⟩
      · rintro j σ' H' hj ⟨x9, lx, _⟩
        exact .of (lx _ _ nqD e6)
      · rintro j x σ' Ha Hb hj ⟨x9, lx, eb, rfl⟩ ⟨rfl, hx⟩
        rw [List.getElem?_map, show Nam.way0 B = B.map fun c => [c] from rfl, List.getElem?_map] at hx
        obtain ⟨l0, hl0, rfl⟩ := Option.map_eq_some_iff.mp hx
        obtain ⟨c, hc, rfl⟩ := Option.map_eq_some_iff.mp hl0
        have jlt : j < B.length := (List.getElem?_eq_some_iff.mp hc).1
        have s1 : (SX.S st).length = st.length := SX.S_len st
        have s2 : (SX.S [c]).length = 1 := SX.S_len [c]
        refine ⟨_, rfl, .inl ⟨rfl, _, SqL.of eb⟩, _, rfl, _, rfl, SX.S st, SX.S [c], rfl, rfl, le_szl _ (by omega), ?_⟩
        rw [cat_S]
        refine ⟨_, rfl, _, rfl, SX.S st, SX.S [c], rfl, rfl, le_szl _ (by omega), ?_⟩
        rw [cat_S]
        have s3 : (SX.S (st ++ [c])).length = st.length + 1 := by rw [SX.S_len]; simp
        refine ⟨_, _, rfl, rfl, le_szl _ (by rw [s3]; show st.length + 1 + 1 ≤ _; omega), ?_⟩
        rw [show SX.S (st ++ [c]) ++ ("x" : Str) = SX.S (st ++ [c] ++ [120]) from cat_S (st ++ [c]) [120]]
        refine ⟨le_szl 2 (by decide), fun l nl => ?_⟩
        have nql : q ≠ l := ne_of_new nl eb
        refine ⟨q, l, _, _, rfl, rfl, (Le.new nl) _ _ eb, upd_self, le_szl _ ?_, ?_⟩
        · rw [List.length_map, Nam.len1, List.length_take]
          show _ + 2 ≤ _
          omega
        · refine ⟨_, fun b o cb h => by rw [upd_ne cb]; exact (Le.new nl) _ _ (lx b o cb h), ?_, rfl⟩
          rw [upd_self, List.take_add_one, hc]
          unfold Nam.way1
          rw [List.flatMap_append, List.map_append]
          rfl
      · rintro σ' H' ⟨x9, lx, eb, rfl⟩
        rw [List.length_map] at eb
        have hl0 : (Nam.way0 B).length = B.length := by unfold Nam.way0; rw [List.length_map]
        rw [hl0, List.take_of_length_le (Nat.le_refl _)] at eb
        refine ⟨q, _, _, fun b o hb h => lx b o (fun e => by rw [e, hq] at h; cases h) (l6 b o hb h), p6.lx lx (ne_of_new' nq p6.dict).symm ?_, by rw [if_pos rfl]; exact eb, rfl⟩
        intro e
        obtain ⟨_, _, _, _, z, _⟩ := p6
        rw [e, nq] at z; cases z
    · have hw : ¬ way = 1 := fun e => c (by rw [e]; exact decide_eq_true rfl)
      exact ⟨D, _, _, l6, p6, by rw [if_neg hw]; exact e6, rfl⟩
  rintro σ' H7 ⟨p, x8, x9, l7, p7, e7, rfl⟩
  -- the second way
  refine ⟨fun σ' H' => ∃ (p : Addr) (L : List (List Nat)) (x8 x9 x10 x11 : Option V), LeX d H H' ∧ IsPen H' d dl (n + 20) ∧ H' p = some (.lst (L.map nmV)) ∧ L.Nodup ∧ (∀ l ∈ L, Nam.Ok l) ∧ 23 ≤ L.length ∧ L.length ≤ 46 ∧ σ' = [some (.ref d), some (.int many), some (.str sgL), some (nmV st), some (.int way), some (.int fr), x6, some (.ref p), x8, x9, x10, x11], ?_, ?_⟩
  · refine ⟨_, rfl, rfl, _, rfl, ?_⟩
    refine ite2 (fun c => ?_) (fun c => ?_)
    · have hw : way = 2 := by have := of_decide_eq_true c; injection this
      subst hw
      rw [if_neg (by decide)] at e7
      have hl0 : (Nam.way0 B).length = 23 := by unfold Nam.way0; rw [List.length_map]; exact hBl
      refine ⟨_, rfl, p, rfl, ⟨_, .of e7⟩, fun D1 nD1 => ?_⟩
      refine lc_fm (walk_list (xs := (Nam.way0 B).map nmV)) gives_at nD1 (by rw [List.length_map, hl0]; decide) (fun _ le => .of (le _ _ e7)) (fun v => match v with | .str z => some (.str (("zz" : Str) ++ z)) | _ => none) ?_ ?_
      · intro x H8 hx le N hN
        obtain ⟨l, hl, rfl⟩ := List.mem_map.mp hx
        obtain ⟨c, hc, rfl⟩ := List.mem_map.mp hl
        refine ⟨rfl, _, rfl, _, SX.S [c], rfl, rfl, le_szl _ (by show 2 + 1 ≤ _; decide), hN _ .refl⟩
      intro H8 l8 e8
      have e8 : H8 D1 = some (.lst ((B.map fun c => 122 :: 122 :: [c]).map nmV)) := by
        rw [e8, fm_map (Nam.way0 B) _ nmV (fun l => nmV (122 :: 122 :: l)) (fun l _ => by
          show some (V.str (SX.S [122, 122] ++ SX.S l)) = _
          rw [cat_S]
          rfl)]
        unfold Nam.way0
        rw [List.map_map, List.map_map]
        rfl
      have e78 := l8 _ _ e7
      -- the outer comprehension's list
      refine ⟨_, rfl, p, _, rfl, .of e78, fun D2 nD2 => ?_⟩
      refine lc_pure walk_enum nD2 (le_szl _ (by rw [List.length_map, hl0]; decide)) (fun _ le => .of (le _ _ e78)) ?_ (fun i => (B[i]?).map fun c => nmV (c :: List.replicate (i % 3) 119)) ?_ ?_
      · rintro i H9 x H10 ⟨T9, y, z, rfl, nT, rfl, _⟩
        exact Le.new nT
      · rintro i x H9 H10 hi le ⟨T9, y, z, rfl, nT, rfl, hy, hz⟩ N hN
        cases hy
        have hz : ((Nam.way0 B).map nmV)[i]? = some z := hz
        rw [List.getElem?_map, show Nam.way0 B = B.map fun c => [c] from rfl, List.getElem?_map] at hz
        obtain ⟨l0, hl0, rfl⟩ := Option.map_eq_some_iff.mp hz
        obtain ⟨c, hc, rfl⟩ := Option.map_eq_some_iff.mp hl0
        have hN := hN _ Le.refl
        rw [hc] at hN
        refine ⟨T9, _, rfl, .of upd_self, rfl, _, _, rfl, _, _, rfl, rfl, rfl, ?_⟩
        have e : ((i : Nat) : Int) % 3 = ((i % 3 : Nat) : Int) := by omega
        refine ⟨_, rfl, _, rfl, .inl ⟨_, rfl, _, _, rfl, rfl, (show (0 : Int) < 3 by decide), ("w" : Str), i % 3, rfl, congrArg V.int e, by show 1 * (i % 3) ≤ _; omega, by omega, ?_⟩⟩
        have em : Txt.mul ("w" : Str) ((i % 3 : Nat) : Int) = SX.S (List.replicate (i % 3) 119) := by
          have h3 : i % 3 = 0 ∨ i % 3 = 1 ∨ i % 3 = 2 := by omega
          rcases h3 with h | h | h <;> rw [h] <;> decide +kernel
        rw [em]
        refine ⟨SX.S [c], _, rfl, rfl, le_szl _ (by rw [SX.S_len, SX.S_len, List.length_replicate]; show 1 + _ ≤ _; omega), ?_⟩
        rw [cat_S]
        exact hN
      intro H9 l9 e9
      have e9 : H9 D2 = some (.lst ((Nam.heads B).map nmV)) := by
        rw [e9]
        unfold Nam.heads
        rw [List.map_map, List.length_map, hl0, ← hBl]
        exact congrArg (fun z => some (HO.lst z)) (fm_zip B fun c i => nmV (c :: List.replicate (i % 3) 119))
      have e89 := l9 _ _ e8
      have hlen : (Nam.heads B).length = 23 := by unfold Nam.heads; simp [hBl]
      refine ⟨_, rfl, D2, D1, _, _, rfl, rfl, e9, e89, le_szl _ (by rw [List.length_map, List.length_map, List.length_map, hlen, hBl]; decide), fun D3 nD3 => ?_⟩
      rw [← List.map_append]
      have e10 : upd H9 D3 (.lst ((Nam.heads B ++ B.map fun c => 122 :: 122 :: [c]).map nmV)) D3 = some (.lst ((Nam.heads B ++ B.map fun c => 122 :: 122 :: [c]).map nmV)) := upd_self
      have l10 : Le H7 (upd H9 D3 (.lst ((Nam.heads B ++ B.map fun c => 122 :: 122 :: [c]).map nmV))) := l8.trans (l9.trans (Le.new nD3))
      generalize upd H9 D3 (.lst ((Nam.heads B ++ B.map fun c => 122 :: 122 :: [c]).map nmV)) = H10 at e10 l10 ⊢
      have hlen2 : (Nam.heads B ++ B.map fun c => 122 :: 122 :: [c]).length = 46 := by rw [List.length_append, hlen, List.length_map, hBl]
      refine ⟨D3, rfl, ⟨_, .of e10⟩, fun D4 nD4 => ?_⟩
      refine lc_fm (walk_list (xs := (Nam.heads B ++ B.map fun c => 122 :: 122 :: [c]).map nmV)) gives_at nD4 (by rw [List.length_map, hlen2]; decide) (fun _ le => .of (le _ _ e10)) (fun v => match v with | .str z => some (.str (SX.S st ++ z)) | _ => none) ?_ ?_
      · intro x H11 hx le N hN
        obtain ⟨l, hl, rfl⟩ := List.mem_map.mp hx
        have hll : l.length ≤ 3 := by
          rcases List.mem_append.mp hl with h | h
          · obtain ⟨y, _, rfl⟩ := List.mem_map.mp h; simp; omega
          · obtain ⟨y, _, rfl⟩ := List.mem_map.mp h; simp
        exact ⟨rfl, _, rfl, _, rfl, SX.S st, SX.S l, rfl, rfl, le_szl _ (by rw [SX.S_len, SX.S_len]; omega), hN _ .refl⟩
      intro H11 l11 e11
      have e11 : H11 D4 = some (.lst ((Nam.way2 st B).map nmV)) := by
        rw [e11, fm_map _ _ nmV (fun l => nmV (st ++ l)) (fun l _ => by
          show some (V.str (SX.S st ++ SX.S l)) = _
          rw [cat_S]
          rfl)]
        unfold Nam.way2
        rw [List.map_map]
        rfl
      exact ⟨D4, Nam.way2 st B, _, _, _, _, l7.tr (l10.trans l11).x, p7.le (l10.trans l11), e11, Nam.nd2 bnd ball, Nam.ok2 sc sl ball, by rw [Nam.len2, hBl]; decide, by rw [Nam.len2, hBl]; decide, rfl⟩
    · have hl0 : (Nam.way0 B).length = 23 := by unfold Nam.way0; rw [List.length_map]; exact hBl
      refine ⟨p, _, _, _, _, _, l7, p7, e7, ?_, ?_, ?_, ?_, rfl⟩
      · split
        · exact Nam.nd1 bnd
        · exact Nam.nd0 bnd
      · split
        · exact Nam.ok1 sc sl ball
        · exact Nam.ok0 ball
      · split
        · rw [Nam.len1, hBl]; decide
        · rw [hl0]; exact Nat.le_refl _
      · split
        · rw [Nam.len1, hBl]; decide
        · rw [hl0]; decide
  rintro σ' H8 ⟨p, L, x8, x9, x10, x11, l8, p8, e8, ndL, okL, L0, L1, rfl⟩
  obtain ⟨ndR, okR⟩ := good_of ndL okL
  generalize hR : L.map SX.S = R at ndR okR
  have hRl : R.length = L.length := by rw [← hR, List.length_map]
  have e8 : H8 p = some (.lst (R.map V.str)) := by rw [e8, ← hR, List.map_map]; rfl
  -- without the barred ones
  refine ⟨_, rfl, p, rfl, ⟨_, .of e8⟩, fun D nD => ?_⟩
  refine lc_fm (walk_list (xs := R.map V.str)) gives_at nD (by rw [List.length_map, hRl]; omega) (fun _ le => .of (le _ _ e8)) (fun v => match v with | .str z => if (!decide (z ∈ barL)) = true then some (.str z) else none | _ => none) ?_ ?_
  · intro x H9 hx le N hN
    obtain ⟨z, hz, rfl⟩ := List.mem_map.mp hx
    refine ⟨rfl, _, rfl, rfl, fun q H10 l10 nq eq => ?_⟩
    refine ⟨q, _, rfl, .inl (.of eq), rfl, flat_row barL, _, rfl, ?_⟩
    have hN := hN H10 l10
    show if (!inV (.str z) (barL.map V.str)) = true then _ else _
    rw [inV_str]
    refine ite2 (fun c => ?_) (fun c => ?_)
    · exact ⟨_, rfl, by have h := hN; simp only at h; rw [if_pos c] at h; exact h⟩
    · have h := hN; simp only at h; rw [if_neg c] at h; exact h
  intro H9 l9 e9
  rw [fm_filter R _ V.str (fun z => !decide (z ∈ barL)) fun _ _ => rfl] at e9
  refine ⟨_, rfl, _, rfl, D, _, rfl, .of e9, fun q nq => ?_⟩
  rw [cutV_to, ← List.map_take]
  have hfl := Nam.left_len (L := R) (bar := barL) ndR
  have hb : barL.length = 8 := rfl
  generalize hS : (R.filter fun z => !decide (z ∈ barL)) = S0 at *
  have lS0 : S0.length ≤ 46 := by
    rw [← hS]
    have := List.length_filter_le (fun z => !decide (z ∈ barL)) R
    omega
  have eqq : upd H9 q (.lst ((S0.take many).map V.str)) q = some (.lst ((S0.take many).map V.str)) := upd_self
  have l10 : Le H8 (upd H9 q (.lst ((S0.take many).map V.str))) := l9.trans (Le.new nq)
  generalize upd H9 q (.lst ((S0.take many).map V.str)) = H10 at eqq l10 ⊢
  have lt1 : (S0.take many).length ≤ 46 := by rw [List.length_take]; omega
  refine ⟨_, rfl, _, rfl, d, dl, q, _, _, rfl, p8.le l10, by omega, .of eqq, by rw [List.length_map]; omega, fun q2 ys H11 l11 p11 nq2 e11 pm => ?_⟩
  obtain ⟨r, pr, rfl⟩ := perm_str pm
  have l12 := l8.tr l10.x
  refine qq q2 r H11 (l12.tr l11) (p11.mono (by rw [List.length_map]; omega)) ?_ e11 ⟨?_, fun z hz => ?_⟩ ?_ ?_
  · cases h : H q2 with
    | none => rfl
    | some o =>
      have nd2 : q2 ≠ d := fun e => by
        obtain ⟨kvs, z⟩ := (p8.le l10).dict
        rw [← e, nq2] at z; cases z
      have := l12 q2 o nd2 h
      rw [nq2] at this; cases this
  · refine pr.nodup_iff.mpr ((List.take_sublist _ _).nodup ?_)
    rw [← hS]
    exact List.filter_sublist.nodup ndR
  · have hz2 := List.mem_of_mem_take (pr.mem_iff.mp hz)
    rw [← hS] at hz2
    obtain ⟨h1, h2⟩ := List.mem_filter.mp hz2
    obtain ⟨h3, h4⟩ := okR z h1
    exact ⟨h3, by simpa using h2, h4⟩
  · rw [pr.length_eq, List.length_take]; omega
  · intro hm
    rw [pr.length_eq, List.length_take]
    omega
end
end Od
end
section
set_option Elab.async false
set_option linter.all false
set_option maxRecDepth 100000
set_option maxHeartbeats 2000000
set_option autoImplicit false
/-! functions that are given back: their cells are tracked from the maker's end on -/
namespace Od
open PySem PySem.Spec PyProof.Rows L2 C8 Day NdefX LamX
/-- a cell and what it holds -/
def CellO (c : Addr) (v : Option Value) : HO := .ext fun h => h.IsCell c v
theorem cellO_at {P : Program} {w : World} {H : Hp} {h : Heap} {c : Addr} {v : Option Value} (hok : HOk P w H h) (e : H c = some (CellO c v)) : h.IsCell c v := (hok c _ e).1
theorem cellO_ok {P : Program} {w : World} {H : Hp} {h : Heap} {c : Addr} {v : Option Value} (z : h.IsCell c v) : ObjOk P w H h c (CellO c v) := by
  refine ⟨z, ?_, fun h1 h2 ⟨o, e, d⟩ k => ⟨o, k _ e, d⟩⟩
  obtain ⟨o, e, _⟩ := z
  exact ⟨o, e⟩
/-- a def within a def -/
def inDef (st : Stmt) (j : Nat) : Stmt := (C8.fnBody st).getD j (.Pass ⟨0, 0, 0, 0⟩)
/-! ### a function known by what it answers -/
/-- what a function may lean on: functions, code objects, cells; tables with numbers as keys; lists -/
def Kd : HO → Prop
  | .ext _ => True
  | .dK kvs => ∀ kv ∈ kvs, ∃ i, kv.1 = .inl i
  | .lst _ => True
  | .tup _ => True
  | _ => False
/-- the object at p is a function -/
def FnH (p : Addr) (o : HO) : Prop := ∃ φ : Heap → Prop, o = .ext φ ∧ ∀ h, φ h → PySem.W.FnAt p h
/-- the function at p answers g, and nothing else happens; S: what it leans on -/
def ClS (P : Program) (w : World) (K : PySem.W.Frag) (mg : Str → Option Value) (base : Heap) (k : Nat) (S : List Addr) (H : Hp) (p : Addr) (g : List V → Option V) : Prop :=
  p ∈ S ∧ (∀ a ∈ S, ∃ o, H a = some o ∧ Kd o) ∧ (∃ o, H p = some o ∧ FnH p o) ∧
  ∀ H' : Hp, (∀ a ∈ S, H' a = H a) → ∀ (A : Around) (outer : List Env) (s : Shared) (us : List Value) (vs : List V) (r : V), Room k A → Env0 P w K mg base A outer s H' → Vals vs us → g vs = some r →
    codeAny (model P w) A (.call (.ref p) ⟨us, []⟩) (CR C8.CX0 outer P w H' s (fun v H2 => v = r ∧ H2 = H') C8.E0) s
def ClAt (P : Program) (w : World) (K : PySem.W.Frag) (mg : Str → Option Value) (base : Heap) (k : Nat) (H : Hp) (p : Addr) (g : List V → Option V) : Prop := ∃ S, ClS P w K mg base k S H p g
/-- .. it leans on functions, code objects, cells alone -/
def ClAtE (P : Program) (w : World) (K : PySem.W.Frag) (mg : Str → Option Value) (base : Heap) (k : Nat) (H : Hp) (p : Addr) (g : List V → Option V) : Prop := ∃ S, ClS P w K mg base k S H p g ∧ ∀ a ∈ S, ∃ φ : Heap → Prop, H a = some (.ext φ)
section
variable {P : Program} {w : World} {K : PySem.W.Frag} {mg : Str → Option Value} {base : Heap} {k j : Nat} {S : List Addr} {H H' : Hp} {p D : Addr} {g g' : List V → Option V}
theorem ClS.of (c : ClS P w K mg base k S H p g) (h : ∀ a ∈ S, H' a = H a) : ClS P w K mg base k S H' p g := by
  obtain ⟨h1, h2, h3, h4⟩ := c
  refine ⟨h1, fun a ha => ?_, ?_, fun H2 e => h4 H2 fun a ha => (e a ha).trans (h a ha)⟩
  · rw [h a ha]; exact h2 a ha
  · rw [h p h1]; exact h3
theorem ClAt.le (c : ClAt P w K mg base k H p g) (l : Le H H') : ClAt P w K mg base k H' p g := by
  obtain ⟨S, c⟩ := c
  refine ⟨S, c.of fun a ha => ?_⟩
  obtain ⟨o, e, _⟩ := c.2.1 a ha
  rw [e, l a o e]
theorem ClAt.x (c : ClAt P w K mg base k H p g) (l : LeX D H H') (h : ∀ o, H D = some o → ¬ Kd o) : ClAt P w K mg base k H' p g := by
  obtain ⟨S, c⟩ := c
  refine ⟨S, c.of fun a ha => ?_⟩
  obtain ⟨o, e, q⟩ := c.2.1 a ha
  rw [e, l a o (fun z => h o (z ▸ e) q) e]
theorem ClAt.n (c : ClAt P w K mg base k H p g) (l : ExtN H H') : ClAt P w K mg base k H' p g := by
  obtain ⟨S, c⟩ := c
  refine ⟨S, c.of fun a ha => ?_⟩
  obtain ⟨o, e, q⟩ := c.2.1 a ha
  rw [e, l a o e (fun ps z => by subst z; exact q)]
theorem ClAt.mono (c : ClAt P w K mg base j H p g) (h : j ≤ k) : ClAt P w K mg base k H p g := by
  obtain ⟨S, c1, c2, c3, c4⟩ := c
  exact ⟨S, c1, c2, c3, fun H' e A outer s us vs r hr => c4 H' e A outer s us vs r (hr.mono h)⟩
theorem ClAt.imp (c : ClAt P w K mg base k H p g) (h : ∀ vs r, g' vs = some r → g vs = some r) : ClAt P w K mg base k H p g' := by
  obtain ⟨S, c1, c2, c3, c4⟩ := c
  exact ⟨S, c1, c2, c3, fun H' e A outer s us vs r hr e0 hv hg => c4 H' e A outer s us vs r hr e0 hv (h _ _ hg)⟩
theorem ClAt.there (c : ClAt P w K mg base k H p g) : ∃ o, H p = some o ∧ FnH p o := by
  obtain ⟨S, c1, c2, c3, c4⟩ := c
  exact c3
theorem ClAtE.at (c : ClAtE P w K mg base k H p g) : ClAt P w K mg base k H p g := by
  obtain ⟨S, c, _⟩ := c
  exact ⟨S, c⟩
theorem ClAtE.gen (c : ClAtE P w K mg base k H p g) (l : ∀ a φ, H a = some (.ext φ) → H' a = some (.ext φ)) : ClAtE P w K mg base k H' p g := by
  obtain ⟨S, c, e⟩ := c
  have q : ∀ a ∈ S, H' a = H a := fun a ha => by
    obtain ⟨φ, z⟩ := e a ha
    rw [z, l a φ z]
  refine ⟨S, c.of q, fun a ha => ?_⟩
  rw [q a ha]
  exact e a ha
theorem ClAtE.le (c : ClAtE P w K mg base k H p g) (l : Le H H') : ClAtE P w K mg base k H' p g := c.gen fun a φ e => l a _ e
theorem ClAtE.x (c : ClAtE P w K mg base k H p g) (l : LeX D H H') (h : ∀ φ, H D ≠ some (.ext φ)) : ClAtE P w K mg base k H' p g := c.gen fun a φ e => l a _ (fun z => h φ (z ▸ e)) e
theorem ClAtE.n (c : ClAtE P w K mg base k H p g) (l : ExtN H H') : ClAtE P w K mg base k H' p g := c.gen fun a φ e => l a _ e fun ps z => by cases z
theorem ClAtE.mono (c : ClAtE P w K mg base j H p g) (h : j ≤ k) : ClAtE P w K mg base k H p g := by
  obtain ⟨S, ⟨c1, c2, c3, c4⟩, e⟩ := c
  exact ⟨S, ⟨c1, c2, c3, fun H' e A outer s us vs r hr => c4 H' e A outer s us vs r (hr.mono h)⟩, e⟩
theorem ClAtE.imp (c : ClAtE P w K mg base k H p g) (h : ∀ vs r, g' vs = some r → g vs = some r) : ClAtE P w K mg base k H p g' := by
  obtain ⟨S, ⟨c1, c2, c3, c4⟩, e⟩ := c
  exact ⟨S, ⟨c1, c2, c3, fun H' e A outer s us vs r hr e0 hv hg => c4 H' e A outer s us vs r hr e0 hv (h _ _ hg)⟩, e⟩
end
/-! ### called -/
/-- x(..), x a name that holds a function of this kind -/
def tClo (R : Hp → Addr → (List V → Option V) → Prop) (i : Nat) (t : TA) : TE := fun σ H Q => ∃ p g, σ[i]? = some (some (.ref p)) ∧ R H p g ∧ t σ H fun vs H1 => R H1 p g ∧ ∃ r, g vs = some r ∧ Q r H1
section
variable {X : Cx} {i j k : Nat} {x : Str} {t : TA} {e : Expr} {es : List Expr} {p pos : Pos}
theorem fnH_at {pins : List (Addr × Obj)} {σ : L2.St} {H : Hp} {s : Shared} {q : Addr} {o : HO} (I : Inv X pins σ H s) (e : H q = some o) (f : FnH q o) : PySem.W.FnAt q s.heap := by
  obtain ⟨φ, rfl, h⟩ := f
  exact h _ (I.hok q _ e).1
theorem pe_clo (hr : Room k X.A) (hN : X.N[i]? = some x) (hv : Vis X.env.scope x) (ha : PA X (e :: es) t)
    (hd : (x == ("__debug__" : Str)) = false := by decide) (hcd : (x == ("__classdict__" : Str)) = false := by decide)
    (he : starEach (e :: es) X.env = (false, eval e X.env) :: starEach es X.env := by rfl) (hpl : (backTo pos (starEach es X.env)).any (·.1) = false := by rfl) :
    PE X (.Call (.Name x p) (e :: es) [] pos) (tClo (ClAt X.prog X.w X.K X.mg X.base k) i t) := by
  refine ⟨fun pins s σ H Q I h => ?_⟩
  obtain ⟨f, g, hs, hc, ht⟩ := h
  refine wpAny_Call_Name_kw (thn ((pe_var (pos := p) hN hv hd hcd).run pins s σ H (fun v H1 => v = .ref f ∧ H1 = H) I ⟨.ref f, hs, rfl, rfl⟩) fun u s1 ⟨v, H1, I1, r1, q1⟩ => ?_)
  obtain ⟨ev, eH⟩ := q1
  subst ev
  rw [eH] at I1
  obtain rfl : u = Value.ref f := r1
  obtain ⟨o1, e1, f1⟩ := hc.there
  refine PySem.W.callWith_F (first := []) (fnH_at I1 e1 f1) (thn (ha.run pos pins s1 σ H _ I1 ht) fun us s2 ⟨vs, H2, I2, r, hc2, y, hg, q⟩ => ?_) he hpl
  obtain ⟨o2, e2, f2⟩ := hc2.there
  refine ⟨fnH_at I2 e2 f2, ?_⟩
  show wpAny _ _ (call (.ref f) us) _ _ _
  obtain ⟨S, c1, c2, c3, c4⟩ := hc2
  refine wpAny_call (codeAny_mono (c4 H2 (fun _ _ => rfl) X.A X.stack s2 us vs y hr I2.env0 r hg) fun rr s' hq => ?_)
  cases rr with
  | error e => exact hq.elim
  | ok fl =>
    cases fl with
    | ret u =>
      obtain ⟨v, H', J, rv, ev, eH⟩ := I2.after hq
      subst ev
      subst eH
      exact ⟨v, H', J, rv, q⟩
    | next => exact False.elim hq
    | brk => exact False.elim hq
    | cont => exact False.elim hq
/-- .. in a comprehension's block too -/
theorem pe_cloK {P : Program} {w : World} {K : PySem.W.Frag} {mg : Str → Option Value} {base : Heap} (hX : X.prog = P ∧ X.w = w ∧ X.K = K ∧ X.mg = mg ∧ X.base = base) (hr : Room k X.A) (hN : X.N[i]? = some x) (hv : Vis X.env.scope x) (ha : PA X (e :: es) t)
    (hd : (x == ("__debug__" : Str)) = false := by decide) (hcd : (x == ("__classdict__" : Str)) = false := by decide)
    (he : starEach (e :: es) X.env = (false, eval e X.env) :: starEach es X.env := by rfl) (hpl : (backTo pos (starEach es X.env)).any (·.1) = false := by rfl) :
    PE X (.Call (.Name x p) (e :: es) [] pos) (tClo (ClAt P w K mg base k) i t) := by
  obtain ⟨rfl, rfl, rfl, rfl, rfl⟩ := hX
  exact pe_clo hr hN hv ha hd hcd he hpl
end
/-! ### statements that end by a return, the state told too -/
abbrev TX := (L2.St → V → Hp → Prop) → L2.St → Hp → Prop
def XP (X : Cx) (pins : List (Addr × Obj)) (R : L2.St → V → Hp → Prop) (f : Flow) (s' : Shared) : Prop :=
  match f with
  | .ret u => ∃ v σ' H', Inv X pins σ' H' s' ∧ L2.RelV v u ∧ R σ' v H'
  | _ => False
structure PXs (X : Cx) (st : List Stmt) (t : TX) : Prop where
  run : ∀ (pins : List (Addr × Obj)) (s : Shared) (σ : L2.St) (H : Hp) (R : L2.St → V → Hp → Prop), Inv X pins σ H s → t R σ H → wpAny (model X.prog X.w) X.A (execs st X.env) (XP X pins R) X.xe s
section
variable {X : Cx} {st : Stmt} {rest body : List Stmt} {ts : TS} {tr tp : TX} {tc : TT} {te : TE} {c e : Expr} {pos : Pos}
theorem PXs.nox (h : PXs X.nox body tr) : PXs X body tr := ⟨fun pins s σ H R I hw =>
  wpAny_mono (h.run pins s σ H R (I.wish _) hw) (fun f s' q => by
    cases f with
    | ret u =>
      obtain ⟨v, σ', H', J, rv, q⟩ := q
      exact ⟨v, σ', H', J.unwish, rv, q⟩
    | next => exact q
    | brk => exact q
    | cont => exact q) fun _ _ z => z.elim⟩
def xRet (te : TE) : TX := fun R σ H => te σ H fun v H1 => R σ v H1
theorem px_ret (he : PE X e te) : PXs X (.Return (some e) pos :: rest) (xRet te) := ⟨fun pins s σ H R I h =>
  wpAny_execs_cons (wpAny_Return_some (thn (he.run pins s σ H _ I h) fun v s1 ⟨x, H1, I1, r1, q1⟩ => ⟨x, σ, H1, I1, r1, q1⟩))⟩
def xCons (ts : TS) (tr : TX) : TX := fun R σ H => ts { nx := fun σ1 H1 => tr R σ1 H1, rt := fun _ _ => False } σ H
theorem px_cons (h1 : PS X st ts) (h2 : PXs X rest tr) : PXs X (st :: rest) (xCons ts tr) := by
  refine ⟨fun pins s σ H R I h => ?_⟩
  refine wpAny_execs_cons (thn (h1.run pins s σ H _ I h) fun f s1 q => ?_)
  cases f with
  | next =>
    obtain ⟨σ', H', I', q⟩ := q
    exact h2.run pins s1 σ' H' R I' q
  | ret v =>
    obtain ⟨_, _, _, _, _, q⟩ := q
    exact q.elim
  | brk =>
    obtain ⟨_, _, _, q⟩ := q
    exact q.elim
  | cont =>
    obtain ⟨_, _, _, q⟩ := q
    exact q.elim
/-- if c: .. return; rest -/
def xIf (tc : TT) (tp tr : TX) : TX := fun R σ H => tc σ H fun b H1 => if b = true then tp R σ H1 else tr R σ H1
theorem px_if (hc : PT X c tc) (hp : PXs X body tp) (hr : PXs X rest tr) : PXs X (.If c body [] pos :: rest) (xIf tc tp tr) := by
  refine ⟨fun pins s σ H R I h => ?_⟩
  refine wpAny_execs_cons (wpAny_If (thn (hc.run pins s σ H _ I h) fun d s1 ⟨H1, I1, q1⟩ => ?_))
  cases d with
  | true =>
    refine thn (hp.run pins s1 σ H1 R I1 q1) fun f s2 q => ?_
    cases f with
    | ret u => exact q
    | next => exact q.elim
    | brk => exact q.elim
    | cont => exact q.elim
  | false => exact wpAny_execs_nil (hr.run pins s1 σ H1 R I1 q1)
end
/-! ### the maker's end -/
/-- from H' to H'': the frame's cells are tracked -/
structure Esc (N : List Str) (scope : Scope) (cells : List (Str × Addr)) (σ : L2.St) (H' H'' : Hp) : Prop where
  le : Le H' H''
  none : ∀ x c, cells.lookup x = some c → H' c = none
  all : ∀ x c, cells.lookup x = some c → ∃ v, H'' c = some (CellO c v)
  inj : ∀ x y c, cells.lookup x = some c → cells.lookup y = some c → x = y
  cell : ∀ (i : Nat) x v, N[i]? = some x → scope.names.lookup x = some .cell → σ[i]? = some (some v) → ∃ c u, cells.lookup x = some c ∧ L2.RelV v u ∧ H'' c = some (CellO c (some u))
/-- the cells into the abstract heap, what they hold by h -/
noncomputable def cellsIn (cells : List (Str × Addr)) (h : Heap) (H : Hp) : Hp := fun b =>
  open Classical in if q : (∃ x, cells.lookup x = some b) ∧ ∃ v, h.IsCell b v then some (CellO b q.2.choose) else H b
theorem isCell_inj {h : Heap} {c : Addr} {v v' : Option Value} (a : h.IsCell c v) (b : h.IsCell c v') : v = v' := by
  obtain ⟨o, e, d⟩ := a
  obtain ⟨o', e', d'⟩ := b
  rw [e] at e'
  cases e'
  rw [d] at d'
  cases d'
  rfl
theorem cellsIn_at {cells : List (Str × Addr)} {h : Heap} {H : Hp} {x : Str} {c : Addr} {v : Option Value} (e : cells.lookup x = some c) (z : h.IsCell c v) : cellsIn cells h H c = some (CellO c v) := by
  unfold cellsIn
  have q : (∃ x, cells.lookup x = some c) ∧ ∃ v, h.IsCell c v := ⟨⟨x, e⟩, v, z⟩
  rw [dif_pos q, isCell_inj q.2.choose_spec z]
theorem cellsIn_else {cells : List (Str × Addr)} {h : Heap} {H : Hp} {b : Addr} (n : ¬ ∃ x, cells.lookup x = some b) : cellsIn cells h H b = H b := by
  unfold cellsIn
  exact dif_neg fun q => n q.1
section
variable {P : Program} {w : World} {K : PySem.W.Frag} {mg : Str → Option Value} {base : Heap}
theorem esc_end {X : Cx} {σ : L2.St} {H' : Hp} {s' : Shared} (I : Inv X [] σ H' s') (hx : X.ex = []) (hab : ∀ x c, X.env.cells.lookup x = some c → X.s_0.heap.objs.size ≤ c) :
    ∃ H'', Esc X.N X.env.scope X.env.cells σ H' H'' ∧ Un X.fs [] X.H_0 H'' X.s_0.heap s'.heap ∧ HOk X.prog X.w H'' s'.heap := by
  have at_ : ∀ x c, X.env.cells.lookup x = some c → ∃ v, s'.heap.IsCell c v ∧ cellsIn X.env.cells s'.heap H' c = some (CellO c v) := fun x c e => by
    obtain ⟨v, z⟩ := I.cell x c e
    exact ⟨v, z, cellsIn_at e z⟩
  have keep : ∀ b o, H' b = some o → cellsIn X.env.cells s'.heap H' b = some o := fun b o e => by
    rw [cellsIn_else fun ⟨x, z⟩ => by rw [I.freeC x b z] at e; cases e]
    exact e
  have back : ∀ b, (∃ x, X.env.cells.lookup x = some b) ∨ cellsIn X.env.cells s'.heap H' b = H' b := fun b => by
    by_cases q : ∃ x, X.env.cells.lookup x = some b
    · exact .inl q
    · exact .inr (cellsIn_else q)
  refine ⟨cellsIn X.env.cells s'.heap H', ⟨keep, fun x c e => I.freeC x c e, fun x c e => ?_, I.ok.inj, fun i x v e1 e2 e3 => ?_⟩, ?_, fun b o e => ?_⟩
  · obtain ⟨v, _, z⟩ := at_ x c e
    exact ⟨v, z⟩
  · obtain ⟨m, hn, hl⟩ := I.loc
    obtain ⟨u, r, l⟩ := hl i x v e1 e3 (.inr (.inl e2))
    rcases l with ⟨z, _⟩ | ⟨_, c, hc, hcell⟩
    · have z' : X.env.scope.names.lookup x = some .local := z
      rw [e2] at z'
      cases z'
    · exact ⟨c, u, hc, r, cellsIn_at hc hcell⟩
  · have u := I.base
    rw [hx] at u
    refine ⟨u.keep, u.slot, fun b o e n hb => ?_, u.there, fun b xs e => keep b _ (u.tups b xs e), fun b o xs e => keep b _ (u.frzs b o xs e), fun b ps e => ?_⟩
    · rcases back b with ⟨x, z⟩ | z
      · exact absurd (Heap.lt_size e) (Nat.not_lt.mpr (hab x b z))
      · rw [z]
        exact u.free b o e n hb
    · obtain ⟨more, z⟩ := u.tbls b ps e
      exact ⟨more, keep b _ z⟩
  · by_cases q : ∃ x, X.env.cells.lookup x = some b
    · obtain ⟨x, z⟩ := q
      obtain ⟨v, z1, z2⟩ := at_ x b z
      rw [z2] at e
      cases e
      exact cellO_ok z1
    · rw [cellsIn_else q] at e
      exact (I.hok b o e).stay (fun _ _ _ k => k) (fun c z => keep c _ z) fun c xs z => keep c _ z
/-- a def that gives back functions -/
theorem fn_esc {x qual : Str} {st : Stmt} {f : Addr} {fd : FuncData} {N ps : List Str} {k : Nat} {sp : Sp} (F : C8.Fun K x qual st f fd) (S : FnScope N ps (fnScope st)) (len : ∀ vs H Q E, sp vs H Q E → vs.length = ps.length)
    (hbody : ∀ (cdv : Value) (A : Around) (outer : List Env) (s : Shared) (H : Hp) (vs : List V) (Q : VK) (E : XK), Room k (A.deeper (envOfC qual (fnScope st) s.heap.objs.size f cdv)) → fd.code = cdv → sp vs H Q E →
      ∃ t, PXs (cxOf C8.CX0 P w K mg base N qual (fnScope st) f cdv A outer s H E).nox (fnBody st) t ∧ t (fun σ v H' => ∀ H'', Esc N (fnScope st) (cellsFrom (s.heap.objs.size + 1) (fnScope st).names []) σ H' H'' → Q v H'') (start N vs) H) : FnOk P w K mg base C8.CX0 (k + 1) f fd ps sp := by
  obtain ⟨oc, od, dV, kV, doc, pm, an, cdv, ct, osl, rfl, lk, hcd⟩ := F.ex
  refine ⟨len, fun A outer s H args us vs Q E hr e0 hb r hsp => ?_⟩
  have hl := len _ _ _ _ hsp
  have KX : K.In s.heap := e0.mod.kin.keeps fun b o e => (e0.bs b o e).1
  have lim : s.heap.NoLimit := e0.mod.nolimit.keeps fun b o e => (e0.bs b o e).1
  have hkind : ∀ y ∈ ps.zip us, (fnScope st).names.lookup y.1 = some .local ∨ ((fnScope st).names.lookup y.1 = some .cell ∧ ((cellsFrom (s.heap.objs.size + 1) (fnScope st).names []).lookup y.1).isSome = true) := fun ⟨n, v⟩ hy => by
    rcases S.par n (List.of_mem_zip hy).1 with q | q
    · exact .inl q
    · exact .inr ⟨q, PySem.W.cellsFrom_some _ _ _ (.inl q)⟩
  refine codeAny_call_function hr.depth (KX _ _ lk) rfl S.co S.gen rfl (PySem.W.codeRec_of KX hcd) (hb _ _ _ _ ?_)
  refine wpAny_newFunctionEnv_cells S.kind hkind fun env he s1 x => ?_
  subst he
  refine ⟨lim.keeps x.toInCall.keep, codeAny_func ?_⟩
  obtain ⟨t, ht, hq⟩ := hbody cdv A outer s H vs Q E (hr.deeper _) rfl hsp
  have I : Inv (cxOf C8.CX0 P w K mg base N qual (fnScope st) f cdv A outer s H E) [] (start N vs) H s1 := inv_start S hr.hd e0 hl r x
  refine wpAny_mono (ht.nox.run [] s1 (start N vs) H _ I hq) (fun fl s' hs => ?_) fun e s' hs => hs
  cases fl with
  | ret u =>
    obtain ⟨v, σ', H', J, rv, q⟩ := hs
    obtain ⟨H'', es, un, ok⟩ := esc_end J rfl fun y c e => Nat.le_of_lt (x.above y c (PySem.mem_of_lookup e))
    exact ⟨v, H'', J.os, J.bare, un, ok, rv, q H'' es⟩
  | next => exact hs.elim
  | brk => exact hs.elim
  | cont => exact hs.elim
theorem cal_esc {x : Str} {st : Stmt} {f : Addr} {fd : FuncData} {N ps : List Str} {ds : List Value} {dvs : List V} {k : Nat} {sp : Sp} (F : Def K mg x st f fd) (b : Binds K fd ps ds) (d : Vals dvs ds) (S : FnScope N ps (fnScope st)) (len : ∀ vs H Q E, sp vs H Q E → vs.length = ps.length)
    (hbody : ∀ (cdv : Value) (A : Around) (outer : List Env) (s : Shared) (H : Hp) (vs : List V) (Q : VK) (E : XK), Room k (A.deeper (envOfC x (fnScope st) s.heap.objs.size f cdv)) → fd.code = cdv → sp vs H Q E →
      ∃ t, PXs (cxOf C8.CX0 P w K mg base N x (fnScope st) f cdv A outer s H E).nox (fnBody st) t ∧ t (fun σ v H' => ∀ H'', Esc N (fnScope st) (cellsFrom (s.heap.objs.size + 1) (fnScope st).names []) σ H' H'' → Q v H'') (start N vs) H) : Cal P w K mg base (k + 1) x sp dvs :=
  ⟨f, fd, ps, ds, fn_esc F.fn S len hbody, F.mgf, F.kp, b, d⟩
/-! ### the function behind its maker's end -/
/-- what a nested function with the captured values W promises: it answers g -/
def spC (W : List (Option V)) (S0 : List Addr) (H0 : Hp) (g : List V → Option V) : List (Option V) → Sp := fun ws vs H Q _ => ws = W ∧ (∀ a ∈ S0, H a = H0 a) ∧ ∃ r, g vs = some r ∧ Q r H
theorem cls_of {k : Nat} {p : Addr} {F : NF} {ps fr : List Str} {W : List (Option V)} {S0 : List Addr} {H : Hp} {g : List V → Option V} (Fn : NOk P w K mg base C8.CX0 k p F ps fr (spC W S0 H g)) (hp : H p = some (FnO p F)) (hc : H F.c = some (CodeO F.c F.qual))
    (hall : ∀ y c, F.cl.lookup y = some c → ∃ v, H c = some (CellO c v)) (inj : ∀ x y c, F.cl.lookup x = some c → F.cl.lookup y = some c → x = y)
    (has : ∀ (i : Nat) (y : Str), fr[i]? = some y → ∃ c, F.cl.lookup y = some c ∧ ∀ v, W[i]? = some (some v) → ∃ u, L2.RelV v u ∧ H c = some (CellO c (some u))) (hl : W.length = fr.length)
    (hS : ∀ a ∈ S0, (∀ y, F.cl.lookup y ≠ some a) ∧ ∃ o, H a = some o ∧ Kd o) (npc : ∀ y, F.cl.lookup y ≠ some p) (nfc : ∀ y, F.cl.lookup y ≠ some F.c) : ∃ S, ClS P w K mg base k S H p g ∧ ∀ a ∈ S, a ∈ S0 ∨ ∃ φ : Heap → Prop, H a = some (.ext φ) := by
  classical
  let C : List Addr := (F.cl.map (·.1)).filterMap fun y => F.cl.lookup y
  have hC : ∀ a, a ∈ C ↔ ∃ y, F.cl.lookup y = some a := fun a => by
    constructor
    · intro h
      obtain ⟨y, _, e⟩ := List.mem_filterMap.mp h
      exact ⟨y, e⟩
    · rintro ⟨y, e⟩
      exact List.mem_filterMap.mpr ⟨y, List.mem_map.mpr ⟨(y, a), PySem.mem_of_lookup e, rfl⟩, e⟩
  refine ⟨p :: F.c :: (C ++ S0), ⟨List.mem_cons_self, fun a ha => ?_, ⟨_, hp, ?_⟩, fun H' ag A outer s us vs r hr e0 hv hg => ?_⟩, fun a ha => ?_⟩
  rotate_right
  · rcases List.mem_cons.mp ha with rfl | ha
    · exact .inr ⟨_, hp⟩
    rcases List.mem_cons.mp ha with rfl | ha
    · exact .inr ⟨_, hc⟩
    rcases List.mem_append.mp ha with ha | ha
    · obtain ⟨y, e⟩ := (hC a).mp ha
      obtain ⟨v, q⟩ := hall y a e
      exact .inr ⟨_, q⟩
    · exact .inl ha
  · rcases List.mem_cons.mp ha with rfl | ha
    · exact ⟨_, hp, True.intro⟩
    rcases List.mem_cons.mp ha with rfl | ha
    · exact ⟨_, hc, True.intro⟩
    rcases List.mem_append.mp ha with ha | ha
    · obtain ⟨y, e⟩ := (hC a).mp ha
      obtain ⟨v, q⟩ := hall y a e
      exact ⟨_, q, True.intro⟩
    · exact (hS a ha).2
  · exact ⟨_, rfl, fun h ⟨od, sl, doc, pm, ctv, z⟩ => ⟨_, od, _, sl, z⟩⟩
  · let Hm : Hp := fun a => if a ∈ C then none else H' a
    have agP : H' p = some (FnO p F) := (ag p List.mem_cons_self).trans hp
    have agC : ∀ y c, F.cl.lookup y = some c → H' c = H c := fun y c e => ag c (List.mem_cons_of_mem _ (List.mem_cons_of_mem _ (List.mem_append_left _ ((hC c).mpr ⟨y, e⟩))))
    have mOut : ∀ a, a ∉ C → Hm a = H' a := fun a n => if_neg n
    have mIn : ∀ a, a ∈ C → Hm a = none := fun a n => if_pos n
    have mSome : ∀ a o, Hm a = some o → H' a = some o := fun a o e => by
      by_cases q : a ∈ C
      · rw [mIn a q] at e; cases e
      · rw [← mOut a q]; exact e
    have mNone : ∀ a, H' a = none → Hm a = none := fun a e => by
      by_cases q : a ∈ C
      · exact mIn a q
      · rw [mOut a q]; exact e
    have cellH : ∀ a, a ∈ C → ∃ v, H' a = some (CellO a v) := fun a q => by
      obtain ⟨y, e⟩ := (hC a).mp q
      obtain ⟨v, z⟩ := hall y a e
      exact ⟨v, (agC y a e).trans z⟩
    have hokm : HOk P w Hm s.heap := fun a o e => by
      refine (e0.hok a o (mSome a o e)).stay (fun _ _ _ q => q) (fun b q => ?_) fun b xs q => ?_
      · rw [mOut b fun z => by obtain ⟨v, z⟩ := cellH b z; rw [q] at z; cases z]
        exact q
      · rw [mOut b fun z => by obtain ⟨v, z⟩ := cellH b z; rw [q] at z; cases z]
        exact q
    have e0m : Env0 P w K mg base A outer s Hm := ⟨e0.frames, e0.mod, fun b o e => ⟨(e0.bs b o e).1, mNone b (e0.bs b o e).2⟩, e0.bsz, e0.funs, fun b hb => mNone b (e0.frf b hb), hokm, e0.bare⟩
    have hpm : Hm p = some (FnO p F) := by
      rw [mOut p fun z => by obtain ⟨y, e⟩ := (hC p).mp z; exact npc y e]
      exact agP
    have hcm : Hm F.c = some (CodeO F.c F.qual) := by
      rw [mOut F.c fun z => by obtain ⟨y, e⟩ := (hC F.c).mp z; exact nfc y e]
      exact (ag F.c (List.mem_cons_of_mem _ List.mem_cons_self)).trans hc
    have cat : CellsAt F.cl fr W s.heap Hm := by
      refine ⟨hl, fun y c e => ?_, inj, fun i y e => ?_⟩
      · obtain ⟨v, z⟩ := cellH c ((hC c).mpr ⟨y, e⟩)
        exact ⟨mIn c ((hC c).mpr ⟨y, e⟩), v, cellO_at e0.hok z⟩
      · obtain ⟨c, hc', hv'⟩ := has i y e
        refine ⟨c, hc', fun v ev => ?_⟩
        obtain ⟨u, r', z⟩ := hv' v ev
        exact ⟨u, r', cellO_at e0.hok ((agC y c hc').trans z)⟩
    refine codeAny_mono (Fn.run A outer s Hm us vs W (fun v H2 => v = r ∧ H2 = Hm) C8.E0 hr e0m hpm hcm cat hv ⟨rfl, fun a ha => ?_, r, hg, rfl, rfl⟩) fun rr s' hq => ?_
    · rw [mOut a fun z => by obtain ⟨y, e⟩ := (hC a).mp z; exact (hS a ha).1 y e]
      exact ag a (List.mem_cons_of_mem _ (List.mem_cons_of_mem _ (List.mem_append_right _ ha)))
    · cases rr with
      | error e => exact hq
      | ok fl =>
        cases fl with
        | ret u =>
          obtain ⟨v, H2, os, bare, un, hok2, rv, ev, eH⟩ := hq
          subst eH
          refine ⟨v, H', os, bare, ⟨fun b o e n => un.keep b o e (mNone b n), fun b o e n => un.slot b o e (mNone b n), fun b o e n _ => n, un.there, fun _ _ e => e, fun _ _ _ e => e, fun b ps e => ⟨#[], by rw [e]; simp⟩⟩, fun a o e => ?_, rv, ev, rfl⟩
          by_cases q : a ∈ C
          · obtain ⟨v2, z⟩ := cellH a q
            rw [z] at e
            cases e
            have ic := cellO_at e0.hok z
            obtain ⟨ob, eo, ed⟩ := ic
            refine cellO_ok ⟨ob, un.keep a ob eo (mIn a q) (fun hb => ?_) (by simp), ed⟩
            have := e0.frf a hb
            rw [z] at this
            cases this
          · have e2 : Hm a = some o := by rw [mOut a q]; exact e
            exact (hok2 a o e2).stay (fun _ _ _ q => q) (fun b q => mSome b _ q) fun b xs q => mSome b _ q
        | next => exact hq
        | brk => exact hq
        | cont => exact hq
/-- .. from the maker's end -/
theorem esc_clsS {N fr : List Str} {sc : Scope} {cells : List (Str × Addr)} {σ : L2.St} {H' H'' : Hp} {n k : Nat} {st : Stmt} {name q : Str} {c' p : Addr} {ps : List Str} {js : List Nat} {S0 : List Addr} {g : List V → Option V}
    (es : Esc N sc cells σ H' H'') (hB : ndefB sc (C8.fnScope st) fr = true) (hnf : ∀ y ∈ sc.names, y.2 ≠ .free) (hcs : cells = cellsFrom n sc.names []) (hjs : js.map (fun j => N[j]?) = fr.map some)
    (Fn : NOk P w K mg base C8.CX0 k p (NF.of st name q (cloFrom cells (C8.fnScope st).names []) c') ps fr (spC (js.map (slotAt σ)) S0 H'' g))
    (hp : H' p = some (FnO p (NF.of st name q (cloFrom cells (C8.fnScope st).names []) c'))) (hc : H' c' = some (CodeO c' q)) (hS : ∀ a ∈ S0, ∃ o, H' a = some o ∧ Kd o) : ∃ S, ClS P w K mg base k S H'' p g ∧ ∀ a ∈ S, a ∈ S0 ∨ ∃ φ : Heap → Prop, H'' a = some (.ext φ) := by
  have hk : ∀ y, sc.names.lookup y = some .cell ∨ sc.names.lookup y = some .free → sc.names.lookup y = some .cell := fun y h => h.elim id fun z => absurd rfl (hnf _ (PySem.mem_of_lookup z))
  have hfree : ∀ y ∈ (C8.fnScope st).names, y.2 = .free → ∃ c, cells.lookup y.1 = some c := fun y hy e => by
    rw [hcs]
    exact cell_has (hk _ (ndef_free hB y hy e))
  have none_ : ∀ {a : Addr} {o : HO}, H' a = some o → ∀ y, (cloFrom cells (C8.fnScope st).names []).lookup y ≠ some a := fun {a o} e y z => by
    rw [es.none y a (clo_cm hfree z)] at e
    cases e
  refine cls_of Fn (es.le _ _ hp) (es.le _ _ hc) (fun y c e => es.all y c (clo_cm hfree e)) (fun x y c e1 e2 => es.inj x y c (clo_cm hfree e1) (clo_cm hfree e2)) (fun i y e => ?_) ?_ (fun a ha => ?_) (none_ hp) (none_ hc)
  · have e2 : (js.map fun j => N[j]?)[i]? = some (some y) := by
      rw [hjs, List.getElem?_map, e] <;> rfl
    rw [List.getElem?_map] at e2
    cases ej : js[i]? with
    | none =>
      rw [ej] at e2
      cases e2
    | some j =>
      rw [ej] at e2
      have hj : N[j]? = some y := Option.some.inj (show some (N[j]?) = some (some y) from e2)
      have hy := ndef_fr hB y (List.mem_of_getElem? e)
      have hcell := hk y (ndef_free hB (y, .free) hy rfl)
      obtain ⟨c, hc'⟩ := hfree (y, .free) hy rfl
      have hc' : cells.lookup y = some c := hc'
      refine ⟨c, clo_has hfree hy hc', fun v ev => ?_⟩
      rw [List.getElem?_map, ej] at ev
      have ev2 : σ[j]? = some (some v) := slotAt_some (Option.some.inj (show some (slotAt σ j) = some (some v) from ev))
      obtain ⟨c2, u, h1, h2, h3⟩ := es.cell j y v hj hcell ev2
      rw [hc'] at h1
      cases h1
      exact ⟨u, h2, h3⟩
  · have q := congrArg List.length hjs
    rw [List.length_map, List.length_map] at q
    rw [List.length_map]
    exact q
  · obtain ⟨o, e, kd⟩ := hS a ha
    exact ⟨none_ e, o, es.le _ _ e, kd⟩
theorem esc_cls {N fr : List Str} {sc : Scope} {cells : List (Str × Addr)} {σ : L2.St} {H' H'' : Hp} {n k : Nat} {st : Stmt} {name q : Str} {c' p : Addr} {ps : List Str} {js : List Nat} {S0 : List Addr} {g : List V → Option V}
    (es : Esc N sc cells σ H' H'') (hB : ndefB sc (C8.fnScope st) fr = true) (hnf : ∀ y ∈ sc.names, y.2 ≠ .free) (hcs : cells = cellsFrom n sc.names []) (hjs : js.map (fun j => N[j]?) = fr.map some)
    (Fn : NOk P w K mg base C8.CX0 k p (NF.of st name q (cloFrom cells (C8.fnScope st).names []) c') ps fr (spC (js.map (slotAt σ)) S0 H'' g))
    (hp : H' p = some (FnO p (NF.of st name q (cloFrom cells (C8.fnScope st).names []) c'))) (hc : H' c' = some (CodeO c' q)) (hS : ∀ a ∈ S0, ∃ o, H' a = some o ∧ Kd o) : ClAt P w K mg base k H'' p g := by
  obtain ⟨S, h, _⟩ := esc_clsS es hB hnf hcs hjs Fn hp hc hS
  exact ⟨S, h⟩
theorem esc_clsE {N fr : List Str} {sc : Scope} {cells : List (Str × Addr)} {σ : L2.St} {H' H'' : Hp} {n k : Nat} {st : Stmt} {name q : Str} {c' p : Addr} {ps : List Str} {js : List Nat} {S0 : List Addr} {g : List V → Option V}
    (es : Esc N sc cells σ H' H'') (hB : ndefB sc (C8.fnScope st) fr = true) (hnf : ∀ y ∈ sc.names, y.2 ≠ .free) (hcs : cells = cellsFrom n sc.names []) (hjs : js.map (fun j => N[j]?) = fr.map some)
    (Fn : NOk P w K mg base C8.CX0 k p (NF.of st name q (cloFrom cells (C8.fnScope st).names []) c') ps fr (spC (js.map (slotAt σ)) S0 H'' g))
    (hp : H' p = some (FnO p (NF.of st name q (cloFrom cells (C8.fnScope st).names []) c'))) (hc : H' c' = some (CodeO c' q)) (hS : ∀ a ∈ S0, ∃ φ : Heap → Prop, H' a = some (.ext φ)) : ClAtE P w K mg base k H'' p g := by
  obtain ⟨S, h, e⟩ := esc_clsS es hB hnf hcs hjs Fn hp hc fun a ha => by
    obtain ⟨φ, z⟩ := hS a ha
    exact ⟨_, z, True.intro⟩
  refine ⟨S, h, fun a ha => (e a ha).elim (fun z => ?_) id⟩
  obtain ⟨φ, q⟩ := hS a z
  exact ⟨φ, es.le _ _ q⟩
end
end Od
end
section
set_option Elab.async false
set_option linter.all false
set_option maxRecDepth 100000
set_option maxHeartbeats 2000000
set_option autoImplicit false
/-! lists of truth values as data -/
namespace Od
open PySem PySem.Spec PyProof.Rows L2 C8
theorem eqv_bl : ∀ r s : List Bool, PyData.eqvAll (r.map PyData.bool) (s.map PyData.bool) = decide (r = s)
  | [], [] => rfl
  | [], _ :: _ => rfl
  | _ :: _, [] => rfl
  | x :: r, y :: s => by
    show (PyData.eqv (.bool x) (.bool y) && PyData.eqvAll (r.map PyData.bool) (s.map PyData.bool)) = _
    rw [eqv_bl r s]
    have e : PyData.eqv (.bool x) (.bool y) = decide (x = y) := by cases x <;> cases y <;> decide +kernel
    rw [e]
    by_cases h1 : x = y <;> by_cases h2 : r = s <;> simp [h1, h2]
theorem eqv_bools (r s : List Bool) : PyData.eqv (.list (r.map PyData.bool)) (.list (s.map PyData.bool)) = decide (r = s) := eqv_bl r s
theorem lay_bools : ∀ bs : List Bool, PyData.canLayAll0 (bs.map PyData.bool) = true ∧ PyData.depthAll (bs.map PyData.bool) = 0
  | [] => ⟨rfl, rfl⟩
  | b :: bs => by
    obtain ⟨h1, h2⟩ := lay_bools bs
    exact ⟨by simp [PyData.canLayAll0, PyData.canLay0, h1], by simp [PyData.depthAll, PyData.depth, h2]⟩
theorem shaped_bools (bs : List Bool) : SeqAt.shaped (.list (bs.map PyData.bool)) = true := by
  obtain ⟨h1, h2⟩ := lay_bools bs
  have e1 : (PyData.list (bs.map PyData.bool)).canLay0 = true := h1
  have e2 : (PyData.list (bs.map PyData.bool)).depth = PyData.depthAll (bs.map PyData.bool) + 1 := rfl
  unfold SeqAt.shaped
  rw [e1, e2, h2]
  rfl
theorem dp_bl {K : PySem.W.Frag} {H : Hp} : ∀ bs : List Bool, DpAll K H (bs.map V.bl) (bs.map PyData.bool)
  | [] => .nil
  | b :: bs => .cons (.bl b) (dp_bl bs)
theorem cut_to (xs : List V) (n : Nat) (h : n ≤ xs.length) : cutV xs none (some (n : Int)) = xs.take n := by
  unfold cutV
  rw [HT.sIx_none, HT.sIx_nat, Nat.min_eq_left h, List.drop_zero, Nat.sub_zero]
theorem cut_mid (xs : List V) (i j : Nat) (hi : i ≤ j) (hj : j ≤ xs.length) : cutV xs (some (i : Int)) (some (j : Int)) = (xs.drop i).take (j - i) := by
  unfold cutV
  rw [HT.sIx_nat, HT.sIx_nat, Nat.min_eq_left (Nat.le_trans hi hj), Nat.min_eq_left hj]
end Od
end
section
set_option Elab.async false
set_option linter.all false
set_option maxRecDepth 100000
set_option maxHeartbeats 2000000
set_option autoImplicit false
/-! lists of pairs of truth values as data -/
namespace Od
open PySem PySem.Spec PyProof.Rows L2 C8
def pairD (b : Bool × Bool) : PyData := .tuple [.bool b.1, .bool b.2]
def PairAt (H : Hp) (v : V) (b : Bool × Bool) : Prop := ∃ t : Addr, v = .ref t ∧ H t = some (.tup [.bl b.1, .bl b.2])
theorem PairAt.dp {K : PySem.W.Frag} {H : Hp} {v : V} {b : Bool × Bool} (h : PairAt H v b) : Dp K H v (pairD b) := by
  obtain ⟨t, rfl, e⟩ := h
  exact .tup (.of e) (.cons (.bl _) (.cons (.bl _) .nil))
theorem dp_pairs {K : PySem.W.Frag} {H : Hp} {us : List V} {bs : List (Bool × Bool)} (h : All2 (PairAt H) us bs) : DpAll K H us (bs.map pairD) := by
  induction h with
  | nil => exact .nil
  | cons h _ ih => exact .cons h.dp ih
theorem lay_pairs : ∀ bs : List (Bool × Bool), PyData.canLayAll0 (bs.map pairD) = true ∧ PyData.depthAll (bs.map pairD) ≤ 1
  | [] => ⟨rfl, Nat.zero_le _⟩
  | b :: bs => by
    obtain ⟨h1, h2⟩ := lay_pairs bs
    refine ⟨?_, ?_⟩
    · rw [List.map_cons]
      show (PyData.canLay0 (pairD b) && PyData.canLayAll0 (bs.map pairD)) = true
      rw [h1]
      rfl
    · rw [List.map_cons]
      show max (PyData.depth (pairD b)) (PyData.depthAll (bs.map pairD)) ≤ 1
      have : PyData.depth (pairD b) = 1 := rfl
      omega
theorem shaped_pair (b : Bool × Bool) : SeqAt.shaped (pairD b) = true := by
  obtain ⟨x, y⟩ := b
  cases x <;> cases y <;> decide +kernel
theorem shaped_pairs (bs : List (Bool × Bool)) : SeqAt.shaped (.list (bs.map pairD)) = true := by
  obtain ⟨h1, h2⟩ := lay_pairs bs
  have e1 : (PyData.list (bs.map pairD)).canLay0 = true := h1
  have e2 : (PyData.list (bs.map pairD)).depth = PyData.depthAll (bs.map pairD) + 1 := rfl
  unfold SeqAt.shaped
  rw [e1, e2]
  rcases Nat.le_one_iff_eq_zero_or_eq_one.mp h2 with h | h <;> rw [h] <;> rfl
theorem eqv_pair (b c : Bool × Bool) : PyData.eqv (pairD b) (pairD c) = decide (b = c) := by
  obtain ⟨x, y⟩ := b
  obtain ⟨z, w⟩ := c
  cases x <;> cases y <;> cases z <;> cases w <;> decide +kernel
theorem any_pairs (bs : List (Bool × Bool)) (c : Bool × Bool) : ((bs.map pairD).any fun z => PyData.eqv z (pairD c)) = bs.any fun b => decide (b = c) := by
  rw [List.any_map]
  congr 1
  funext b
  exact eqv_pair b c
end Od
end
section
set_option Elab.async false
set_option linter.all false
set_option maxRecDepth 100000
set_option maxHeartbeats 2000000
set_option autoImplicit false
/-! a map is read -/
namespace Od
open PySem PySem.Spec PyProof.Rows L2 C8 Day
abbrev s_lines_of : Stmt := top 11
abbrev N_lines_of : List Str := ["text"]
abbrev P_lines_of : List Str := ["text"]
theorem sc_lines_of : FnScope N_lines_of P_lines_of (C8.fnScope s_lines_of) := fnScope_by (by decide +kernel)
abbrev s_words_of : Stmt := top 12
abbrev N_words_of : List Str := ["line", "words"]
abbrev P_words_of : List Str := ["line"]
theorem sc_words_of : FnScope N_words_of P_words_of (C8.fnScope s_words_of) := fnScope_by (by decide +kernel)
abbrev s_is_name : Stmt := top 13
abbrev N_is_name : List Str := ["word", "sign"]
abbrev P_is_name : List Str := ["word"]
theorem sc_is_name : FnScope N_is_name P_is_name (C8.fnScope s_is_name) := fnScope_by (by decide +kernel)
abbrev s_is_chain_line : Stmt := top 40
abbrev N_is_chain_line : List Str := ["words", "chains"]
abbrev P_is_chain_line : List Str := ["words", "chains"]
theorem sc_is_chain_line : FnScope N_is_chain_line P_is_chain_line (C8.fnScope s_is_chain_line) := fnScope_by (by decide +kernel)
abbrev s_way_of : Stmt := top 41
abbrev N_way_of : List Str := ["words", "chains", "by"]
abbrev P_way_of : List Str := ["words", "chains"]
theorem sc_way_of : FnScope N_way_of P_way_of (C8.fnScope s_way_of) := fnScope_by (by decide +kernel)
abbrev s_read_map : Stmt := top 42
abbrev N_read_map : List Str := ["text", "chains", "ways", "at", "line", "words", "way"]
abbrev P_read_map : List Str := ["text"]
theorem sc_read_map : FnScope N_read_map P_read_map (C8.fnScope s_read_map) := fnScope_by (by decide +kernel)
section
variable {P : Program} {w : World} {K : PySem.W.Frag} {mg : Str → Option Value} {base : Heap}
def sp_lines : Sp := fun vs H Q _ => ∃ z : Str, vs = [.str z] ∧ z ≠ ("" : Str) ∧ z.length ≤ 1000000 ∧ ∀ p H', Le H H' → H p = none → H' p = some (.lst ((Txt.split z ("\n" : Str)).map V.str)) → Q (.ref p) H'
theorem c_lines (T : Txt K mg) (F : DefOf K mg "lines_of" s_lines_of P_lines_of) : Cal P w K mg base 1 "lines_of" sp_lines [] := by
  obtain ⟨f, fd, F, B⟩ := F
  refine cal0 F B .nil sc_lines_of (fun vs H Q E h => by obtain ⟨_, rfl, _⟩ := h; rfl) (fun cdv A outer s H vs Q E hr h => ?_)
  obtain ⟨z, rfl, hz, hl, q⟩ := h
  have nd := sc_lines_of.nd
  refine ⟨_, (pss_one (ps_ret (pe_ifExp (pt_cmpR op_eq (pv 0) pe_str (nomark _)) (pe_lst pa_nil) (pe_split (pv 0) pe_str)))), ?_⟩
  refine ⟨_, rfl, rfl, _, rfl, ite2 (fun c => ?_) (fun c => ?_)⟩
  · have c : V.str z = V.str ("" : Str) := of_decide_eq_true c
    injection c with c
    exact absurd c hz
  · exact ⟨_, rfl, ⟨_, rfl⟩, z, _, rfl, rfl, by decide +kernel, le_szl _ (by omega), fun p np => q p _ (Le.new np) np upd_self⟩
def sp_words : Sp := fun vs H Q _ => ∃ z : Str, vs = [.str z] ∧ z.length ≤ 1000000 ∧ (("" : Str) ∈ Txt.split z (" " : Str) → ∀ H', Le H H' → Q .non H') ∧ (("" : Str) ∉ Txt.split z (" " : Str) → ∀ p H', Le H H' → H p = none → H' p = some (.lst ((Txt.split z (" " : Str)).map V.str)) → Q (.ref p) H')
theorem c_words (T : Txt K mg) (F : DefOf K mg "words_of" s_words_of P_words_of) : Cal P w K mg base 1 "words_of" sp_words [] := by
  obtain ⟨f, fd, F, B⟩ := F
  refine cal0 F B .nil sc_words_of (fun vs H Q E h => by obtain ⟨_, rfl, _⟩ := h; rfl) (fun cdv A outer s H vs Q E hr h => ?_)
  obtain ⟨z, rfl, hl, q1, q2⟩ := h
  have nd := sc_words_of.nd
  refine ⟨_, (pss_cons (ps_set (i := 1) nd rfl (Or.inl rfl) (pe_split (pv 0) pe_str))
      (pss_cons (ps_if (pt_cmpR op_in_seq pe_str (pv 1) (by rfl)) (pss_one (ps_ret pe_non)) pss_nil)
      (pss_one (ps_ret (pv 1))))), ?_⟩
  refine ⟨_, rfl, ⟨_, rfl⟩, z, _, rfl, rfl, by decide +kernel, le_szl _ (by omega), fun p np => ?_⟩
  have l1 := Le.new (o := .lst ((Txt.split z (" " : Str)).map V.str)) np
  refine ⟨_, rfl, p, _, rfl, .inl (.of upd_self), rfl, flat_row _, _, rfl, ?_⟩
  rw [inV_str]
  refine ite2 (fun c => ?_) (fun c => ?_)
  · exact q1 (of_decide_eq_true c) _ l1
  · exact ⟨_, rfl, q2 (fun h => c (decide_eq_true h)) p _ l1 np upd_self⟩
theorem let_tl : ("abcdefghijklmnopqrstuvwxyz" : Str).cps.toList = (List.range 26).map (97 + ·) := by decide +kernel
/-- a name -/
def IsName (z : Str) : Prop := 1 ≤ z.length ∧ z.length ≤ 12 ∧ z ∉ barL ∧ ∀ c ∈ z.cps.toList, 97 ≤ c ∧ c ≤ 122
structure Names (K : PySem.W.Frag) (mg : Str → Option Value) (bA : Addr) : Prop where
  bar : ∃ u, mg "BARRED" = some u ∧ L2.RelV (.ref bA) u
  bt : ∀ H : Hp, SqT K H bA (barL.map V.str)
  let_ : ∃ u, mg "LETTERS" = some u ∧ L2.RelV (.str "abcdefghijklmnopqrstuvwxyz") u
  lng : ∃ u, mg "LONGEST" = some u ∧ L2.RelV (.int 12) u
def sp_isname : Sp := fun vs H Q _ => ∃ z : Str, vs = [.str z] ∧ z.length ≤ 1000000 ∧ ∀ b H', Le H H' → (b = true ↔ IsName z) → Q (.bl b) H'
theorem c_isname {bA : Addr} (T : Txt K mg) (N : Names K mg bA) (F : DefOf K mg "is_name" s_is_name P_is_name) : Cal P w K mg base 1 "is_name" sp_isname [] := by
  obtain ⟨f, fd, F, B⟩ := F
  refine cal0 F B .nil sc_is_name (fun vs H Q E h => by obtain ⟨_, rfl, _⟩ := h; rfl) (fun cdv A outer s H vs Q E hr h => ?_)
  obtain ⟨z, rfl, hl, q⟩ := h
  have nd := sc_is_name.nd
  have G_BARRED := N.bar
  have G_LETTERS := N.let_
  have G_LONGEST := N.lng
  refine ⟨_, (pss_one (ps_ret (pe_and (pe_chain op_le op_le pe_int (pe_callB call_len_str (by rfl) T.b_len (by decide +kernel) (pa_cons (pv 0) pa_nil)) (pe_gc rfl G_LONGEST)) (pe_and (pe_cmpR op_notIn_seq (pv 0) (pe_gc rfl G_BARRED) (by rfl)) (pe_one (pe_callB (cr_all rfl) (by rfl) T.b_all (by decide +kernel) (pa_cons (pe_lc (own := [("sign", 1)]) (g := gName 1) (by rfl) nd (pi_str (pv 0)) (blkOk_by (own := [("sign", 1)]) (N := N_is_name) (sc := C8.fnScope s_is_name) (by decide +kernel)) (fun _ _ _ _ _ => pg_name (i := 1) nd rfl (Or.inl rfl)) (fun _ _ _ _ _ => pts_nil) (fun _ _ _ _ _ => (pe_cmpR op_in_sign (pv 1) (pe_gc rfl G_LETTERS) (by rfl)))) pa_nil))))))), ?_⟩
  have h0 : z.cps.size = z.length := rfl
  refine ⟨_, rfl, _, rfl, ⟨le_szl _ (by omega), _, _, rfl, rfl, _, rfl, ite2 (fun c1 => ?_) (fun c1 => ?_)⟩⟩
  rotate_left
  · refine ⟨_, rfl, ite2 (fun c => absurd (by simpa using c) c1) (fun _ => ?_)⟩
    have c1 : ¬ (1 : Int) ≤ (z.length : Nat) := fun h => c1 (decide_eq_true h)
    exact q false _ .refl ⟨fun h => (by cases h), fun h => by have := h.1; omega⟩
  refine ⟨_, _, rfl, rfl, _, rfl, ?_⟩
  have c1 : (1 : Int) ≤ (z.length : Nat) := of_decide_eq_true c1
  refine ite2 (fun c2 => ?_) (fun c2 => ?_)
  rotate_left
  · have c2 : ¬ ((z.length : Nat) : Int) ≤ 12 := fun h => c2 (decide_eq_true h)
    exact q false _ .refl ⟨fun h => (by cases h), fun h => by have := h.2.1; omega⟩
  have c2 : ((z.length : Nat) : Int) ≤ 12 := of_decide_eq_true c2
  refine ⟨_, rfl, bA, _, rfl, .inr (N.bt H), rfl, flat_row _, _, rfl, ?_⟩
  show if (!inV (.str z) (barL.map V.str)) = true then _ else _
  rw [inV_str]
  by_cases c3 : z ∈ barL
  · rw [decide_eq_true c3]
    exact ite2 (fun c => absurd c (by decide)) fun _ => q false _ .refl ⟨fun h => (by cases h), fun h => absurd c3 h.2.2.1⟩
  rw [decide_eq_false c3]
  refine ite2 (fun _ => ?_) (fun c => absurd rfl c)
  refine ⟨_, rfl, _, rfl, fun d hd => ?_⟩
  refine lc_pure walk_str hd ?_ (fun _ _ => trivial) (fun _ _ _ _ h => by rw [h.1]; exact .refl) (fun i => (z.cps[i]?).map fun c => V.bl (decide (97 ≤ c ∧ c ≤ 122))) ?_ ?_
  · exact le_szl _ (show z.length ≤ 16777216 by omega)
  · rintro i x H1 H2 hi le ⟨rfl, c, hc, rfl⟩ N2 hN
    have := hN H2 .refl
    rw [hc] at this
    refine ⟨rfl, _, rfl, c, _, rfl, rfl, ?_⟩
    have e : decide (c ∈ (("abcdefghijklmnopqrstuvwxyz" : Str)).cps.toList) = decide (97 ≤ c ∧ c ≤ 122) := by
      rw [let_tl, decide_eq_decide, List.mem_map]
      constructor
      · rintro ⟨i, hi, rfl⟩
        rw [List.mem_range] at hi
        omega
      · intro h
        exact ⟨c - 97, List.mem_range.mpr (by omega), by omega⟩
    rw [e]
    exact this
  · intro H1 le e
    rw [fm_str z fun c => V.bl (decide (97 ≤ c ∧ c ≤ 122))] at e
    refine ⟨d, z.cps.toList.map fun c => decide (97 ≤ c ∧ c ≤ 122), rfl, .of (by rw [e, List.map_map]; rfl), ?_⟩
    have hall : (z.cps.toList.map fun c => decide (97 ≤ c ∧ c ≤ 122)).all id = true ↔ ∀ c ∈ z.cps.toList, 97 ≤ c ∧ c ≤ 122 := by
      rw [List.all_map, List.all_eq_true]
      exact ⟨fun h c hc => of_decide_eq_true (h c hc), fun h c hc => decide_eq_true (h c hc)⟩
    exact q _ _ le (by rw [hall]; exact ⟨fun h => ⟨by omega, by omega, c3, h⟩, fun h => h.2.2.2⟩)
/-! ### lines -/
def WordsAt (H : Hp) (v : V) : Option Row → Prop
  | none => v = .non
  | some l => ∃ q : Addr, v = .ref q ∧ IsRow H q l
theorem WordsAt.le {H H' : Hp} {v : V} {W : Option Row} (h : WordsAt H v W) (l : Le H H') : WordsAt H' v W := by
  cases W with
  | none => exact h
  | some r => obtain ⟨q, e, h⟩ := h; exact ⟨q, e, l _ _ h⟩
structure MapC (mg : Str → Option Value) : Prop where
  mc : ∃ u, mg "MOST_CHAINS" = some u ∧ L2.RelV (.int 6) u
  mw : ∃ u, mg "MOST_WAYS" = some u ∧ L2.RelV (.int 12) u
  fa : ∃ u, mg "FARTHEST" = some u ∧ L2.RelV (.int 30) u
  ln : ∃ u, mg "LONGEST_NUMBER" = some u ∧ L2.RelV (.int 3) u
  ww : ∃ u, mg "WAY_WORDS" = some u ∧ L2.RelV (.int 6) u
def IsChainL (W : Option Row) (r : Row) : Prop := ∃ z : Str, W = some ([("chain" : Str), z] : Row) ∧ IsName z ∧ z ∉ r ∧ r.length < 6
def sp_chainl : Sp := fun vs H Q _ => ∃ (v : V) (c : Addr) (W : Option Row) (r : Row), vs = [v, .ref c] ∧ WordsAt H v W ∧ IsRow H c r ∧ (∀ l, W = some l → l.length ≤ 1000000 ∧ ∀ z ∈ l, z.length ≤ 1000000) ∧ r.length ≤ 1000 ∧ ∀ b H', Le H H' → (b = true ↔ IsChainL W r) → Q (.bl b) H'
theorem c_chainl (T : Txt K mg) (N : MapC mg) (F : DefOf K mg "is_chain_line" s_is_chain_line P_is_chain_line) (C_is_name : Cal P w K mg base 1 "is_name" sp_isname []) : Cal P w K mg base 2 "is_chain_line" sp_chainl [] := by
  obtain ⟨f, fd, F, B⟩ := F
  refine cal0 F B .nil sc_is_chain_line (fun vs H Q E h => by obtain ⟨_, _, _, _, rfl, _⟩ := h; rfl) (fun cdv A outer s H vs Q E hr h => ?_)
  obtain ⟨v, c, W, r, rfl, hw, hc, hb, hr2, q⟩ := h
  have nd := sc_is_chain_line.nd
  have G_MOST_CHAINS := N.mc
  refine ⟨_, (pss_cons (ps_if (PW.pt (pw_or (pt_cmpR op_isN (pv 0) pe_non (nomark _)) (pw_or (pt_cmpR op_ne (pe_callB call_len_seq (by rfl) T.b_len (by decide +kernel) (pa_cons (pv 0) pa_nil)) pe_int (nomark _)) (pw_or1 (pt_cmpR op_ne (pe_ix ix_list (pv 0) pe_int (fun _ _ => rfl)) pe_str (nomark _)))))) (pss_one (ps_ret pe_bl)) pss_nil)
      (pss_one (ps_ret (pe_and (pe_c C_is_name hr (by decide) rfl (pa_cons (pe_ix ix_list (pv 0) pe_int (fun _ _ => rfl)) pa_nil)) (pe_and (pe_cmpR op_notIn_seq (pe_ix ix_list (pv 0) pe_int (fun _ _ => rfl)) (pv 1) (by rfl)) (pe_one (pe_cmpR op_lt (pe_callB call_len_seq (by rfl) T.b_len (by decide +kernel) (pa_cons (pv 1) pa_nil)) (pe_gc rfl G_MOST_CHAINS) (nomark _)))))))), ?_⟩
  cases W with
  | none =>
    obtain rfl : v = .non := hw
    refine ⟨_, rfl, rfl, _, rfl, ite2 (fun _ => ?_) (fun c => absurd rfl c)⟩
    exact q false _ .refl ⟨fun h => (by cases h), fun ⟨z, h, _⟩ => by cases h⟩
  | some l =>
    obtain ⟨p, rfl, hp⟩ := hw
    obtain ⟨hb1, hb2⟩ := hb l rfl
    have nn : ∀ h : IsChainL (some l) r, l.length = 2 ∧ l[0]? = some ("chain" : Str) := fun ⟨z, h, _⟩ => by
      cases h
      exact ⟨rfl, rfl⟩
    refine ⟨_, rfl, rfl, _, rfl, ite2 (fun c => absurd (of_decide_eq_true c) (by simp)) (fun _ => ?_)⟩
    refine ⟨_, rfl, p, _, rfl, .inl (.of hp), rfl, _, rfl, ite2 (fun c2 => ?_) (fun c2 => ?_)⟩
    · refine q false _ .refl ⟨fun h => (by cases h), fun h => ?_⟩
      have := (nn h).1
      simp [this] at c2
    have hl2 : l.length = 2 := by
      have c2 : ¬ (!decide (V.int (((l.map V.str).length : Nat) : Int) = V.int 2)) = true := c2
      rw [Bool.not_eq_true', Bool.not_eq_false, decide_eq_true_iff] at c2
      injection c2 with c2
      rw [List.length_map] at c2
      omega
    match l, hl2 with
    | [w0, w1], _ =>
      refine ⟨_, rfl, _, _, _, .str w0, rfl, rfl, .of hp, atI_nat (j := 0) rfl, rfl, _, rfl, ite2 (fun c3 => ?_) (fun c3 => ?_)⟩
      · refine q false _ .refl ⟨fun h => (by cases h), fun h => ?_⟩
        have e : w0 = "chain" := Option.some.inj (nn h).2
        rw [e] at c3
        exact absurd c3 (by decide +kernel)
      have e0 : w0 = "chain" := by
        have c3 : ¬ (!decide (V.str w0 = V.str ("chain" : Str))) = true := c3
        rw [Bool.not_eq_true', Bool.not_eq_false, decide_eq_true_iff] at c3
        injection c3
      subst e0
      refine ⟨_, rfl, _, _, _, .str w1, rfl, rfl, .of hp, atI_nat (j := 1) rfl, w1, rfl, hb2 w1 (by simp), fun b H1 l1 hb => ⟨_, rfl, ?_⟩⟩
      cases b with
      | false =>
        refine q false _ l1 ⟨fun h => (by cases h), fun ⟨z, h, h2, _⟩ => ?_⟩
        cases h
        exact hb.mpr h2
      | true =>
        have hn := hb.mp rfl
        refine ⟨_, rfl, _, _, _, .str w1, rfl, rfl, .of (l1 _ _ hp), atI_nat (j := 1) rfl, _, rfl, c, _, rfl, .inl (.of (l1 _ _ hc)), rfl, flat_row _, _, rfl, ?_⟩
        show if (!inV (.str w1) (r.map V.str)) = true then _ else _
        rw [inV_str]
        by_cases c4 : w1 ∈ r
        · rw [decide_eq_true c4]
          refine ite2 (fun c => absurd c (by decide)) fun _ => q false _ l1 ⟨fun h => (by cases h), fun ⟨z, h, _, h3, _⟩ => ?_⟩
          cases h
          exact absurd c4 h3
        rw [decide_eq_false c4]
        refine ite2 (fun _ => ?_) (fun c => absurd rfl c)
        refine ⟨_, rfl, c, _, rfl, .inl (.of (l1 _ _ hc)), _, _, rfl, rfl, ?_⟩
        refine q _ _ l1 ⟨fun h => ⟨w1, rfl, hn, c4, ?_⟩, fun ⟨z, _, _, _, h⟩ => ?_⟩
        · have h := of_decide_eq_true h
          rw [List.length_map] at h
          omega
        · refine decide_eq_true ?_
          rw [List.length_map]
          omega
theorem num_text3 {z : Str} (h : IsNum z.cps.toList) (hl : z.length ≤ 3) : ∃ n, intText? z = some n := by
  rcases h with ⟨r, e, c, _⟩ | c
  · exact ⟨_, intText_neg e c.2.1 c.1 (by omega)⟩
  · exact ⟨_, intText_digits c.2.1 c.1 (by omega)⟩
/-- the way that a line tells -/
def IsWay (W : Option Row) (r : Row) (w : Str × Str × Int) : Prop := ∃ z : Str, W = some (["from", w.1, "to", w.2.1, "by", z] : Row) ∧ w.1 ∈ r ∧ w.2.1 ∈ r ∧ IsNum z.cps.toList ∧ z.length ≤ 3 ∧ intText? z = some w.2.2 ∧ -30 ≤ w.2.2 ∧ w.2.2 ≤ 30
def sp_wayof : Sp := fun vs H Q _ => ∃ (v : V) (c : Addr) (W : Option Row) (r : Row), vs = [v, .ref c] ∧ WordsAt H v W ∧ IsRow H c r ∧ (∀ l, W = some l → l.length ≤ 1000000 ∧ ∀ z ∈ l, z.length ≤ 1000000) ∧ ((∀ w, ¬ IsWay W r w) → ∀ H', Le H H' → Q .non H') ∧ ∀ w t H', IsWay W r w → Le H H' → H' t = some (.tup [.str w.1, .str w.2.1, .int w.2.2]) → Q (.ref t) H'
theorem c_wayof (T : Txt K mg) (N : MapC mg) (F : DefOf K mg "way_of" s_way_of P_way_of) (C_is_number : Cal P w K mg base 2 "is_number" (sp_isL IsNum) []) : Cal P w K mg base 3 "way_of" sp_wayof [] := by
  obtain ⟨f, fd, F, B⟩ := F
  refine cal0 F B .nil sc_way_of (fun vs H Q E h => by obtain ⟨_, _, _, _, rfl, _⟩ := h; rfl) (fun cdv A outer s H vs Q E hr h => ?_)
  obtain ⟨v, c, W, r, rfl, hw, hc, hb, q1, q2⟩ := h
  have nd := sc_way_of.nd
  have G_WAY_WORDS := N.ww
  have G_FARTHEST := N.fa
  have G_LONGEST_NUMBER := N.ln
  refine ⟨_, (pss_cons (ps_if (PW.pt (pw_or (pt_cmpR op_isN (pv 0) pe_non (nomark _)) (pw_or (pt_cmpR op_ne (pe_callB call_len_seq (by rfl) T.b_len (by decide +kernel) (pa_cons (pv 0) pa_nil)) (pe_gc rfl G_WAY_WORDS) (nomark _)) (pw_or (pt_cmpR op_ne (pe_ix ix_list (pv 0) pe_int (fun _ _ => rfl)) pe_str (nomark _)) (pw_or (pt_cmpR op_ne (pe_ix ix_list (pv 0) pe_int (fun _ _ => rfl)) pe_str (nomark _)) (pw_or1 (pt_cmpR op_ne (pe_ix ix_list (pv 0) pe_int (fun _ _ => rfl)) pe_str (nomark _)))))))) (pss_one (ps_ret pe_non)) pss_nil)
      (pss_cons (ps_if (PW.pt (pw_or (pt_cmpR op_notIn_seq (pe_ix ix_list (pv 0) pe_int (fun _ _ => rfl)) (pv 1) (by rfl)) (pw_or (pt_cmpR op_notIn_seq (pe_ix ix_list (pv 0) pe_int (fun _ _ => rfl)) (pv 1) (by rfl)) (pw_or (pt_not (pt_val (pe_c C_is_number hr (by decide) rfl (pa_cons (pe_ix ix_list (pv 0) pe_int (fun _ _ => rfl)) pa_nil)))) (pw_or1 (pt_cmpR op_gt (pe_callB call_len_str (by rfl) T.b_len (by decide +kernel) (pa_cons (pe_ix ix_list (pv 0) pe_int (fun _ _ => rfl)) pa_nil)) (pe_gc rfl G_LONGEST_NUMBER) (nomark _))))))) (pss_one (ps_ret pe_non)) pss_nil)
      (pss_cons (ps_set (i := 2) nd rfl (Or.inl rfl) (pe_callTy call_int_str (by rfl) T.b_int (by decide +kernel) (pa_cons (pe_ix ix_list (pv 0) pe_int (fun _ _ => rfl)) pa_nil)))
      (pss_one (ps_ret (pe_ifExp (pt_chain op_le op_le (pe_un un_neg (pe_gc rfl G_FARTHEST)) (pv 2) (pe_gc rfl G_FARTHEST)) (pe_tup (pa_cons (pe_ix ix_list (pv 0) pe_int (fun _ _ => rfl)) (pa_cons (pe_ix ix_list (pv 0) pe_int (fun _ _ => rfl)) (pa_cons (pv 2) pa_nil)))) pe_non)))))), ?_⟩
  cases W with
  | none =>
    obtain rfl : v = .non := hw
    refine ⟨_, rfl, rfl, _, rfl, ite2 (fun _ => ?_) (fun c => absurd rfl c)⟩
    exact q1 (fun w ⟨z, h, _⟩ => by cases h) _ .refl
  | some l =>
    obtain ⟨p, rfl, hp⟩ := hw
    obtain ⟨hb1, hb2⟩ := hb l rfl
    refine ⟨_, rfl, rfl, _, rfl, ite2 (fun c => absurd (of_decide_eq_true c) (by simp)) (fun _ => ?_)⟩
    refine ⟨_, rfl, p, _, rfl, .inl (.of hp), rfl, _, rfl, ite2 (fun c2 => ?_) (fun c2 => ?_)⟩
    · refine q1 (fun w ⟨z, h, _⟩ => ?_) _ .refl
      cases h
      exact absurd c2 (by rw [List.length_map]; show ¬ (!decide (V.int ((6 : Nat) : Int) = V.int 6)) = true; decide)
    have hl2 : l.length = 6 := by
      have c2 : ¬ (!decide (V.int (((l.map V.str).length : Nat) : Int) = V.int 6)) = true := c2
      rw [Bool.not_eq_true', Bool.not_eq_false, decide_eq_true_iff] at c2
      injection c2 with c2
      rw [List.length_map] at c2
      omega
    clear c2
    have str_ne : ∀ {x y : Str}, (!decide (V.str x = V.str y)) = true → x ≠ y := fun h e => by
      rw [e, decide_eq_true rfl] at h
      cases h
    have str_eq : ∀ {x y : Str}, ¬ (!decide (V.str x = V.str y)) = true → x = y := fun {x y} h => by
      rw [Bool.not_eq_true', Bool.not_eq_false, decide_eq_true_iff] at h
      injection h
    match l, hl2 with
    | [w0, w1, w2, w3, w4, w5], _ =>
      refine ⟨_, rfl, _, _, _, .str w0, rfl, rfl, .of hp, atI_nat (j := 0) rfl, rfl, _, rfl, ite2 (fun c3 => ?_) (fun c3 => ?_)⟩
      · exact q1 (fun w ⟨z, h, _⟩ => by cases h; exact str_ne c3 rfl) _ .refl
      have e0 := str_eq c3
      refine ⟨_, rfl, _, _, _, .str w2, rfl, rfl, .of hp, atI_nat (j := 2) rfl, rfl, _, rfl, ite2 (fun c3 => ?_) (fun c3 => ?_)⟩
      · exact q1 (fun w ⟨z, h, _⟩ => by cases h; exact str_ne c3 rfl) _ .refl
      have e2 := str_eq c3
      refine ⟨_, rfl, _, _, _, .str w4, rfl, rfl, .of hp, atI_nat (j := 4) rfl, rfl, _, rfl, ite2 (fun c3 => ?_) (fun c3 => ?_)⟩
      · exact q1 (fun w ⟨z, h, _⟩ => by cases h; exact str_ne c3 rfl) _ .refl
      have e4 := str_eq c3
      subst e0 e2 e4
      clear c3
      refine ⟨_, rfl, _, _, _, .str w1, rfl, rfl, .of hp, atI_nat (j := 1) rfl, _, rfl, c, _, rfl, .inl (.of hc), rfl, flat_row _, _, rfl, ?_⟩
      show if (!inV (.str w1) (r.map V.str)) = true then _ else _
      rw [inV_str]
      by_cases m1 : w1 ∈ r
      rotate_left
      · rw [decide_eq_false m1]
        exact ite2 (fun _ => q1 (fun w ⟨z, h, h2, _⟩ => by cases h; exact m1 h2) _ .refl) fun c => absurd rfl c
      rw [decide_eq_true m1]
      refine ite2 (fun c => absurd c (by decide)) fun _ => ?_
      refine ⟨_, rfl, _, _, _, .str w3, rfl, rfl, .of hp, atI_nat (j := 3) rfl, _, rfl, c, _, rfl, .inl (.of hc), rfl, flat_row _, _, rfl, ?_⟩
      show if (!inV (.str w3) (r.map V.str)) = true then _ else _
      rw [inV_str]
      by_cases m3 : w3 ∈ r
      rotate_left
      · rw [decide_eq_false m3]
        exact ite2 (fun _ => q1 (fun w ⟨z, h, _, h2, _⟩ => by cases h; exact m3 h2) _ .refl) fun c => absurd rfl c
      rw [decide_eq_true m3]
      refine ite2 (fun c => absurd c (by decide)) fun _ => ?_
      refine ⟨_, rfl, _, _, _, .str w5, rfl, rfl, .of hp, atI_nat (j := 5) rfl, w5, rfl, hb2 w5 (by simp), fun b H1 l1 hb5 => ⟨_, rfl, ?_⟩⟩
      cases b with
      | false =>
        exact ite2 (fun _ => q1 (fun w ⟨z, h, _, _, h2, _⟩ => by cases h; exact absurd (hb5.mpr h2) (by decide)) _ l1) fun c => absurd rfl c
      | true =>
        have n5 := hb5.mp rfl
        refine ite2 (fun c => absurd c (by decide)) fun _ => ?_
        refine ⟨_, rfl, _, _, _, .str w5, rfl, rfl, .of (l1 _ _ hp), atI_nat (j := 5) rfl, _, rfl, ⟨le_szl _ (by have := hb2 w5 (by simp); omega), _, _, rfl, rfl, _, rfl, ite2 (fun c5 => ?_) (fun c5 => ?_)⟩⟩
        · have c5 := of_decide_eq_true c5
          exact q1 (fun w ⟨z, h, _, _, _, h2, _⟩ => by cases h; omega) _ l1
        have c5 : ¬ (3 : Int) < ((w5.length : Nat) : Int) := fun h => c5 (decide_eq_true h)
        obtain ⟨n, hn⟩ := num_text3 n5 (by omega)
        refine ⟨_, rfl, _, _, _, .str w5, rfl, rfl, .of (l1 _ _ hp), atI_nat (j := 5) rfl, w5, n, rfl, hn, by omega, ?_⟩
        have bad : (¬ (-30 ≤ n ∧ n ≤ 30)) → ∀ w, ¬ IsWay (some (["from", w1, "to", w3, "by", w5] : Row)) r w := fun hn2 w ⟨z, h, _, _, _, _, h2, h3, h4⟩ => by
          cases h
          rw [hn] at h2
          have e : n = w.2.2 := Option.some.inj h2
          rw [e] at hn2
          exact hn2 ⟨h3, h4⟩
        refine ⟨_, rfl, _, rfl, _, _, rfl, rfl, _, rfl, ite2 (fun c6 => ?_) (fun c6 => ?_)⟩
        rotate_left
        · exact ⟨_, rfl, ite2 (fun c => absurd (by simpa using c) c6) fun _ => q1 (bad fun z => c6 (decide_eq_true z.1)) _ l1⟩
        have c6 : -30 ≤ n := of_decide_eq_true c6
        refine ⟨_, _, rfl, rfl, _, rfl, ite2 (fun c7 => ?_) (fun c7 => ?_)⟩
        rotate_left
        · exact q1 (bad fun z => c7 (decide_eq_true z.2)) _ l1
        have c7 : n ≤ 30 := of_decide_eq_true c7
        refine ⟨_, rfl, _, _, _, .str w1, rfl, rfl, .of (l1 _ _ hp), atI_nat (j := 1) rfl, ?_⟩
        refine ⟨_, rfl, _, _, _, .str w3, rfl, rfl, .of (l1 _ _ hp), atI_nat (j := 3) rfl, _, rfl, le_szl 3 (by decide), fun t nt => ?_⟩
        exact q2 (w1, w3, n) t _ ⟨w5, rfl, m1, m3, n5, by omega, hn, c6, c7⟩ (l1.trans (Le.new nt)) upd_self
def wayD (w : Str × Str × Int) : PyData := .tuple [.str w.1, .str w.2.1, .int w.2.2]
theorem WayAt.dp {H : Hp} {v : V} {w : Str × Str × Int} (h : WayAt H v w) : Dp K H v (wayD w) := by
  obtain ⟨t, rfl, e⟩ := h
  exact .tup (.of e) (.cons (.str _) (.cons (.str _) (.cons (.int _) .nil)))
theorem dp_ways {H : Hp} {us : List V} {ws : Ways} (h : All2 (WayAt H) us ws) : DpAll K H us (ws.map wayD) := by
  induction h with
  | nil => exact .nil
  | cons h _ ih => exact .cons h.dp ih
def WOk (b : Str × Str × Int) : Prop := PyData.strOk b.1 = true ∧ PyData.strOk b.2.1 = true
theorem lay_way {b : Str × Str × Int} (h : WOk b) : (wayD b).canLay0 = true ∧ (wayD b).depth = 1 := by
  refine ⟨?_, ?_⟩
  · simp [wayD, PyData.canLay0, PyData.canLayAll0]
    exact h
  · simp [wayD, PyData.depth, PyData.depthAll]
theorem lay_ways : ∀ ws : Ways, (∀ b ∈ ws, WOk b) → PyData.canLayAll0 (ws.map wayD) = true ∧ PyData.depthAll (ws.map wayD) ≤ 1
  | [], _ => ⟨rfl, Nat.zero_le _⟩
  | b :: bs, h => by
    obtain ⟨h1, h2⟩ := lay_ways bs fun x hx => h x (List.mem_cons_of_mem _ hx)
    obtain ⟨h3, h4⟩ := lay_way (h b List.mem_cons_self)
    refine ⟨?_, ?_⟩
    · rw [List.map_cons]
      show (PyData.canLay0 (wayD b) && PyData.canLayAll0 (bs.map wayD)) = true
      rw [h1, h3]
      rfl
    · rw [List.map_cons]
      show max (PyData.depth (wayD b)) (PyData.depthAll (bs.map wayD)) ≤ 1
      omega
theorem shaped_way {b : Str × Str × Int} (h : WOk b) : SeqAt.shaped (wayD b) = true := by
  obtain ⟨h3, h4⟩ := lay_way h
  unfold SeqAt.shaped
  rw [h3, h4]
  rfl
theorem shaped_ways {bs : Ways} (h : ∀ b ∈ bs, WOk b) : SeqAt.shaped (.list (bs.map wayD)) = true := by
  obtain ⟨h1, h2⟩ := lay_ways bs h
  have e1 : (PyData.list (bs.map wayD)).canLay0 = true := h1
  have e2 : (PyData.list (bs.map wayD)).depth = PyData.depthAll (bs.map wayD) + 1 := rfl
  unfold SeqAt.shaped
  rw [e1, e2]
  rcases Nat.le_one_iff_eq_zero_or_eq_one.mp h2 with h | h <;> rw [h] <;> rfl
theorem eqv_way (b c : Str × Str × Int) : PyData.eqv (wayD b) (wayD c) = decide (b = c) := by
  obtain ⟨x, y, n⟩ := b
  obtain ⟨z, w, m⟩ := c
  show (decide (x = z) && (decide (y = w) && (decide (n = m) && true))) = _
  by_cases h1 : x = z <;> by_cases h2 : y = w <;> by_cases h3 : n = m <;> simp [h1, h2, h3]
theorem any_ways (ws : Ways) (c : Str × Str × Int) : ((ws.map wayD).any fun z => PyData.eqv z (wayD c)) = decide (c ∈ ws) := by
  rw [List.any_map, Bool.eq_iff_iff, List.any_eq_true, decide_eq_true_iff]
  constructor
  · rintro ⟨x, hx, h⟩
    have h : PyData.eqv (wayD x) (wayD c) = true := h
    rw [eqv_way] at h
    rw [← of_decide_eq_true h]
    exact hx
  · intro h
    exact ⟨c, h, by show PyData.eqv (wayD c) (wayD c) = true; rw [eqv_way]; exact decide_eq_true rfl⟩
end
end Od
end
section
set_option Elab.async false
set_option linter.all false
set_option maxRecDepth 100000
set_option maxHeartbeats 2000000
set_option autoImplicit false
/-! rows as data: equal ones, ones among others -/
namespace Od
open PySem PySem.Spec PyProof.Rows L2 C8
def dRow (r : Row) : PyData := .list (r.map PyData.str)
def dRows (rs : List Row) : PyData := .list (rs.map dRow)
theorem dpAll_str {K : PySem.W.Frag} {H : Hp} : ∀ r : Row, DpAll K H (r.map V.str) (r.map PyData.str)
  | [] => .nil
  | x :: r => .cons (.str x) (dpAll_str r)
theorem dp_row {K : PySem.W.Frag} {H : Hp} {p : Addr} {r : Row} (h : IsRow H p r) : Dp K H (.ref p) (dRow r) := .lst (.of h) (dpAll_str r)
theorem dpAll_rows {K : PySem.W.Frag} {H : Hp} : ∀ {ps : PR}, Prs H ps → DpAll K H (refs ps) ((rows ps).map dRow)
  | [], _ => .nil
  | x :: ps, h => .cons (dp_row (h x List.mem_cons_self)) (dpAll_rows fun y hy => h y (List.mem_cons_of_mem _ hy))
theorem dp_rows {K : PySem.W.Frag} {H : Hp} {q : Addr} {ps : PR} (h : H q = some (.lst (refs ps))) (p : Prs H ps) : Dp K H (.ref q) (dRows (rows ps)) := .lst (.of h) (dpAll_rows p)
theorem ok_str {z : Str} (h : Nm z) : PyData.strOk z = true := by
  unfold PyData.strOk
  rw [← Array.all_toList, List.all_eq_true]
  intro c hc
  have := h.1 c hc
  exact decide_eq_true (by omega)
theorem can_row : ∀ {r : Row}, (∀ z ∈ r, Nm z) → PyData.canLayAll0 (r.map PyData.str) = true ∧ PyData.depthAll (r.map PyData.str) = 0
  | [], _ => ⟨rfl, rfl⟩
  | x :: r, h => by
    obtain ⟨h1, h2⟩ := can_row fun z hz => h z (List.mem_cons_of_mem _ hz)
    refine ⟨?_, ?_⟩
    · rw [List.map_cons]
      unfold PyData.canLayAll0
      rw [h1, Bool.and_true]
      exact ok_str (h x List.mem_cons_self)
    · rw [List.map_cons]
      unfold PyData.depthAll
      rw [h2]
      rfl
theorem row_lay {r : Row} (h : ∀ z ∈ r, Nm z) : PyData.canLay0 (dRow r) = true ∧ PyData.depth (dRow r) = 1 := by
  obtain ⟨h1, h2⟩ := can_row h
  refine ⟨h1, ?_⟩
  show PyData.depthAll (r.map PyData.str) + 1 = 1
  rw [h2]
theorem shaped_row {r : Row} (h : ∀ z ∈ r, Nm z) : SeqAt.shaped (dRow r) = true := by
  obtain ⟨h1, h2⟩ := row_lay h
  unfold SeqAt.shaped
  rw [h1, h2]
  rfl
theorem rows_lay : ∀ {rs : List Row}, (∀ r ∈ rs, ∀ z ∈ r, Nm z) → PyData.canLayAll0 (rs.map dRow) = true ∧ PyData.depthAll (rs.map dRow) ≤ 1
  | [], _ => ⟨rfl, Nat.zero_le _⟩
  | x :: rs, h => by
    obtain ⟨h1, h2⟩ := rows_lay fun z hz => h z (List.mem_cons_of_mem _ hz)
    obtain ⟨h3, h4⟩ := row_lay (h x List.mem_cons_self)
    refine ⟨?_, ?_⟩
    · rw [List.map_cons]
      unfold PyData.canLayAll0
      rw [h1, h3]
      rfl
    · rw [List.map_cons]
      unfold PyData.depthAll
      rw [h4]
      omega
theorem shaped_rows {rs : List Row} (h : ∀ r ∈ rs, ∀ z ∈ r, Nm z) : SeqAt.shaped (dRows rs) = true := by
  obtain ⟨h1, h2⟩ := rows_lay h
  unfold SeqAt.shaped
  have e1 : (dRows rs).canLay0 = true := h1
  have e2 : (dRows rs).depth = PyData.depthAll (rs.map dRow) + 1 := rfl
  rw [e1, e2]
  simp
  omega
theorem eqv_str : ∀ r s : Row, PyData.eqvAll (r.map PyData.str) (s.map PyData.str) = decide (r = s)
  | [], [] => rfl
  | [], y :: s => by rw [decide_eq_false (by simp)]; rfl
  | x :: r, [] => by rw [decide_eq_false (by simp)]; rfl
  | x :: r, y :: s => by
    rw [List.map_cons, List.map_cons]
    show ((x == y) && PyData.eqvAll (r.map PyData.str) (s.map PyData.str)) = _
    rw [eqv_str r s]
    by_cases h1 : x = y
    · subst h1
      by_cases h2 : r = s
      · subst h2; simp
      · rw [decide_eq_false h2, Bool.and_false, decide_eq_false (by simp [h2])]
    · rw [beq_eq_false_iff_ne.mpr h1, Bool.false_and, decide_eq_false (by simp [h1])]
theorem eqv_row (r s : Row) : PyData.eqv (dRow r) (dRow s) = decide (r = s) := eqv_str r s
theorem any_row (rs : List Row) (r : Row) : ((rs.map dRow).any fun z => PyData.eqv z (dRow r)) = decide (r ∈ rs) := by
  rw [List.any_map, Bool.eq_iff_iff, List.any_eq_true, decide_eq_true_iff]
  constructor
  · rintro ⟨s, hs, h⟩
    have h : PyData.eqv (dRow s) (dRow r) = true := h
    rw [eqv_row] at h
    rw [← of_decide_eq_true h]; exact hs
  · intro h
    exact ⟨r, h, by show PyData.eqv (dRow r) (dRow r) = true; rw [eqv_row]; exact decide_eq_true rfl⟩
theorem eqv_rows (rs : List Row) (h : ∀ r ∈ rs, ∀ z ∈ r, Nm z) : PyData.eqv (dRows rs) (dRows rs) = true := SeqAt.eqv_refl _ (rows_lay h).1
theorem u65 {k : Nat} {A : Around} (r : Room k A) : A.units + 65 < cLine := by have := r.un; omega
end Od
end
section
set_option Elab.async false
set_option linter.all false
set_option maxRecDepth 100000
set_option maxHeartbeats 2000000
set_option autoImplicit false
/-! the texts of forms, as data -/
namespace Od
open PySem PySem.Spec PyProof.Rows L2 C8 Day
theorem sg_lt (l : List Bool) : ∀ c ∈ l.map sg, c < 1114112 := fun c hc => by
  obtain ⟨b, _, rfl⟩ := List.mem_map.mp hc
  cases b <;> decide
theorem numS_lt (n : Int) : ∀ c ∈ (numS n).cps.toList, c < 1114112 := fun c hc => by
  have dig : ∀ c ∈ TL.numL n.natAbs, c < 1114112 := fun c hc => by
    have := TL.numL_digits _ c hc
    omega
  rw [numS_tl] at hc
  split at hc
  · rcases List.mem_cons.mp hc with rfl | hc
    · decide
    · exact dig c hc
  · exact dig c hc
theorem midS_lt (m : List Bool) : ∀ c ∈ (midS m).cps.toList, c < 1114112 := fun c hc => by
  unfold midS at hc
  split at hc
  · have : (("-" : Str)).cps.toList = [45] := by decide +kernel
    rw [this] at hc
    obtain rfl := List.mem_singleton.mp hc
    decide
  · rw [rowS_tl] at hc
    exact sg_lt _ c hc
theorem strF_ok (F : Frm) : PyData.strOk (strF F) = true := by
  unfold PyData.strOk
  rw [← Array.all_toList, List.all_eq_true]
  intro c hc
  rw [strF_tl] at hc
  refine decide_eq_true ?_
  simp only [List.mem_append, List.mem_cons] at hc
  rcases hc with h | h | h | h | h | h | h
  · exact sg_lt _ c h
  · omega
  · exact numS_lt _ c h
  · omega
  · exact midS_lt _ c h
  · omega
  · exact sg_lt _ c h
/-- texts that are as texts are -/
theorem eqv_txt : ∀ r s : List Str, PyData.eqvAll (r.map PyData.str) (s.map PyData.str) = decide (r = s)
  | [], [] => rfl
  | [], _ :: _ => rfl
  | _ :: _, [] => rfl
  | x :: r, y :: s => by
    show ((x == y) && PyData.eqvAll (r.map PyData.str) (s.map PyData.str)) = _
    rw [eqv_txt r s]
    by_cases h1 : x = y <;> by_cases h2 : r = s <;> simp [h1, h2]
theorem eqv_txts (r s : List Str) : PyData.eqv (.list (r.map PyData.str)) (.list (s.map PyData.str)) = decide (r = s) := eqv_txt r s
theorem lay_txts : ∀ ts : List Str, (∀ t ∈ ts, PyData.strOk t = true) → PyData.canLayAll0 (ts.map PyData.str) = true ∧ PyData.depthAll (ts.map PyData.str) = 0
  | [], _ => ⟨rfl, rfl⟩
  | t :: ts, h => by
    obtain ⟨h1, h2⟩ := lay_txts ts fun x hx => h x (List.mem_cons_of_mem _ hx)
    exact ⟨by simp [PyData.canLayAll0, PyData.canLay0, h1, h t List.mem_cons_self], by simp [PyData.depthAll, PyData.depth, h2]⟩
theorem shaped_txts (ts : List Str) (h : ∀ t ∈ ts, PyData.strOk t = true) : SeqAt.shaped (.list (ts.map PyData.str)) = true := by
  obtain ⟨h1, h2⟩ := lay_txts ts h
  have e1 : (PyData.list (ts.map PyData.str)).canLay0 = true := h1
  have e2 : (PyData.list (ts.map PyData.str)).depth = PyData.depthAll (ts.map PyData.str) + 1 := rfl
  unfold SeqAt.shaped
  rw [e1, e2, h2]
  rfl
theorem dp_txt {K : PySem.W.Frag} {H : Hp} : ∀ ts : List Str, DpAll K H (ts.map V.str) (ts.map PyData.str)
  | [] => .nil
  | t :: ts => .cons (.str t) (dp_txt ts)
end Od
end
section
set_option Elab.async false
set_option linter.all false
set_option maxRecDepth 100000
set_option maxHeartbeats 2000000
set_option autoImplicit false
/-! a right map is read -/
namespace Od
open PySem PySem.Spec PyProof.Rows L2 C8 Day
theorem Nm.ok {z : Str} (h : Nm z) : PyData.strOk z = true := by
  unfold PyData.strOk
  rw [Array.all_eq_true_iff_forall_mem] 
  intro c hc
  have := h.1 c (by simpa using hc)
  simp
  omega
theorem nodup_take {α : Type} {l : List α} (nd : l.Nodup) {i : Nat} {a : α} (h : l[i]? = some a) : a ∉ l.take i := fun hm => by
  have e := List.take_append_drop i l
  rw [← e, List.nodup_append] at nd
  refine nd.2.2 a hm a ?_ rfl
  obtain ⟨h1, h2⟩ := List.getElem?_eq_some_iff.mp h
  rw [List.mem_iff_getElem]
  exact ⟨0, by rw [List.length_drop]; omega, by rw [List.getElem_drop]; exact h2⟩
section
variable {P : Program} {w : World} {K : PySem.W.Frag} {mg : Str → Option Value} {base : Heap}
theorem OkMap.isname {r : Row} {ws : Ways} (o : OkMap r ws) {z : Str} (h : z ∈ r) : IsName z := by
  obtain ⟨h1, h2, h3⟩ := o.nm z h
  exact ⟨h2, h1.2, h3, h1.1⟩
def sp_readmap : Sp := fun vs H Q _ => ∃ (r : Row) (ws : Ways), vs = [.str (mapS r ws)] ∧ OkMap r ws ∧ ∀ t c u H', Le H H' → H' t = some (.tup [.ref c, .ref u]) → IsRow H' c r → WaysAt H' u ws → Q (.ref t) H'
theorem c_readmap (T : Txt K mg) (N : MapC mg) (F : DefOf K mg "read_map" s_read_map P_read_map) (C_lines_of : Cal P w K mg base 1 "lines_of" sp_lines []) (C_words_of : Cal P w K mg base 1 "words_of" sp_words []) (C_is_chain_line : Cal P w K mg base 2 "is_chain_line" sp_chainl []) (C_way_of : Cal P w K mg base 3 "way_of" sp_wayof []) : Cal P w K mg base 4 "read_map" sp_readmap [] := by
  obtain ⟨f, fd, F, B⟩ := F
  refine cal0 F B .nil sc_read_map (fun vs H Q E h => by obtain ⟨_, _, rfl, _⟩ := h; rfl) (fun cdv A outer s H vs Q E hr h => ?_)
  obtain ⟨r, ws, rfl, o, qq⟩ := h
  have nd := sc_read_map.nd
  have G_MOST_WAYS := N.mw
  refine ⟨_, (pss_cons (ps_set (i := 1) nd rfl (Or.inl rfl) (pe_lst pa_nil))
      (pss_cons (ps_set (i := 2) nd rfl (Or.inl rfl) (pe_lst pa_nil))
      (C8.pss_cut (ps_for PassesOwn.never rfl (pi_enum (by rfl) T.b_enumerate (pa_cons (pe_c C_lines_of hr (by decide) rfl (pa_cons (pv 0) pa_nil)) pa_nil)) (pg_tup rfl (pgs_cons (pg_name (i := 3) nd rfl (Or.inl rfl)) (pgs_cons (pg_name (i := 4) nd rfl (Or.inl rfl)) pgs_nil))) (pss_cons (ps_set (i := 5) nd rfl (Or.inl rfl) (pe_c C_words_of hr (by decide) rfl (pa_cons (pv 4) pa_nil)))
      (C8.pss_cut (ps_if (PW.pt (pw_and (pt_cmpR (op_eqE hr.units) (pv 2) (pe_lst pa_nil) (nomark _)) (pw_and1 (pt_val (pe_c C_is_chain_line hr (by decide) rfl (pa_cons (pv 5) (pa_cons (pv 1) pa_nil))))))) (pss_cons (ps_expr (pe_bm PySem.F.plainAttrs_list PySem.F.slot_list_append PySem.F.type_list_append mt_append (pv 1) (pa_cons (pe_ix ix_list (pv 5) pe_int (fun _ _ => rfl)) pa_nil)))
      (pss_one ps_continue)) pss_nil)
      (pss_cons (ps_set (i := 6) nd rfl (Or.inl rfl) (pe_c C_way_of hr (by decide) rfl (pa_cons (pv 5) (pa_cons (pv 1) pa_nil))))
      (C8.pss_cut (ps_if (PW.pt (pw_or (pt_cmpR op_isN (pv 6) pe_non (nomark _)) (pw_or (pt_cmpR (op_inD (u65 hr)) (pv 6) (pv 2) (by rfl)) (pw_or1 (pt_cmpR op_eq (pe_callB call_len_seq (by rfl) T.b_len (by decide +kernel) (pa_cons (pv 2) pa_nil)) (pe_gc rfl G_MOST_WAYS) (nomark _)))))) (pss_one ps_never) pss_nil)
      (pss_one (ps_expr (pe_bm PySem.F.plainAttrs_list PySem.F.slot_list_append PySem.F.type_list_append mt_append (pv 2) (pa_cons (pv 6) pa_nil)))))))))
      (C8.pss_cut (ps_if (pt_cmpR (op_eqE hr.units) (pv 1) (pe_lst pa_nil) (nomark _)) (pss_one ps_never) pss_nil)
      (pss_one (ps_ret (pe_tup (pa_cons (pv 1) (pa_cons (pv 2) pa_nil))))))))), ?_⟩
  have ol := o.len
  refine ⟨Nat.zero_le _, fun c nc => ?_⟩
  refine ⟨Nat.zero_le _, fun u nu => ?_⟩
  have l1 := (Le.new (o := .lst []) nc).trans (Le.new (o := .lst []) nu)
  have ec : upd (upd H c (.lst [])) u (.lst []) c = some (.lst []) := Le.new nu _ _ upd_self
  have eu : upd (upd H c (.lst [])) u (.lst []) u = some (.lst []) := upd_self
  have ncu : c ≠ u := ne_of_new nu (upd_self (H := H) (p := c) (o := .lst []))
  have nuH : H u = none := (Le.new nc).none nu
  generalize upd (upd H c (.lst [])) u (.lst []) = H1 at l1 ec eu ⊢
  -- the state behind the loop
  refine ⟨fun σ' H' => Le H H' ∧ IsRow H' c r ∧ WaysAt H' u ws ∧ ∃ x3 x4 x5 x6, σ' = [some (.str (mapS r ws)), some (.ref c), some (.ref u), x3, x4, x5, x6], ?_, ?_⟩
  rotate_left
  · rintro σ' H' ⟨le, hc, hu, x3, x4, x5, x6, rfl⟩
    refine ⟨fun σ2 H2 => Le H' H2 ∧ σ2 = [some (.str (mapS r ws)), some (.ref c), some (.ref u), x3, x4, x5, x6], ?_, ?_⟩
    · refine ⟨_, rfl, Nat.zero_le _, fun q1 nq1 => ?_⟩
      have k1 := Le.new (o := .lst []) nq1
      refine ⟨c, q1, _, _, rfl, rfl, .of (k1 _ _ hc), .of upd_self, .inr rfl, _, rfl, ite2 (fun e => ?_) fun _ => ⟨k1, rfl⟩⟩
      refine absurd e ?_
      obtain ⟨z, r', rfl⟩ := List.exists_cons_of_ne_nil o.r0
      simp
    · rintro σ2 H2 ⟨k1, rfl⟩
      refine ⟨_, rfl, _, rfl, le_szl 2 (by decide), fun t nt => ?_⟩
      have k2 := Le.new (o := .tup [.ref c, .ref u]) nt
      exact qq t c u _ ((le.trans k1).trans k2) upd_self (k2 _ _ (k1 _ _ hc)) ((hu.le k1).le k2)
  refine ⟨_, rfl, mapS r ws, rfl, o.ne, by omega, fun ql H2 l2 nql e2 => ?_⟩
  rw [o.lines] at e2
  have l12 := l1.trans l2
  have ec2 := l2 _ _ ec
  have eu2 := l2 _ _ eu
  have nqc : ql ≠ c := fun e => by rw [e, ec] at nql; cases nql
  have nqu : ql ≠ u := fun e => by rw [e, eu] at nql; cases nql
  let St : Hp → Prop := fun H' => ∀ a o, a ≠ c → a ≠ u → H2 a = some o → H' a = some o
  have stH : ∀ {H'}, St H' → Le H H' := fun st a o h => st a o (fun e => by rw [e, nc] at h; cases h) (fun e => by rw [e, nuH] at h; cases h) (l12 _ _ h)
  refine ⟨ql, _, rfl, .of e2, ?_⟩
  refine for_it (walk_enum (K := K) (a := ql) (xs := (linesS r ws).map V.str)) (fun i σ' H' => St H' ∧ IsRow H' c (r.take i) ∧ WaysAt H' u (ws.take (i - r.length)) ∧ ∃ x3 x4 x5 x6, σ' = [some (.str (mapS r ws)), some (.ref c), some (.ref u), x3, x4, x5, x6]) ?_ ?_ ?_ ?_
  · exact ⟨fun _ _ _ _ h => h, ec2, ⟨[], eu2, by rw [Nat.zero_sub]; exact .nil⟩, none, none, none, none, rfl⟩
  · rintro i σ' H' _ ⟨st, _⟩
    exact .of (st _ _ nqc nqu e2)
  · rintro i v σ' Ha Hb hi ⟨st, hc, hu, x3, x4, x5, x6, rfl⟩ ⟨Tt, x, y, rfl, hT, rfl, hx, hy⟩
    have hx : V.int (i : Nat) = x := Option.some.inj hx
    subst hx
    have hy : ((linesS r ws).map V.str)[i]? = some y := hy
    rw [List.getElem?_map] at hy
    obtain ⟨z, hz, rfl⟩ := Option.map_eq_some_iff.mp hy
    have k1 := Le.new (o := .tup [.int (i : Nat), .str z]) hT
    have zlen : z.length ≤ 60 := by
      have hm := List.mem_of_getElem? hz
      unfold linesS at hm
      rcases List.mem_append.mp hm with hm | hm
      · obtain ⟨a, ha, rfl⟩ := List.mem_map.mp hm
        exact chain_len (o.nm a ha).1
      · obtain ⟨b, hb, rfl⟩ := List.mem_map.mp hm
        have := o.wi b hb
        exact way_len (o.nm _ this.1).1 (o.nm _ this.2.1).1 this.2.2
    refine ⟨Tt, _, rfl, .of upd_self, rfl, _, _, rfl, _, _, rfl, rfl, ?_⟩
    by_cases hik : i < r.length
    · -- a chain
      obtain ⟨a, ha⟩ : ∃ a, r[i]? = some a := ⟨_, List.getElem?_eq_getElem hik⟩
      have haR := List.mem_of_getElem? ha
      obtain rfl : z = chainS a := by
        unfold linesS at hz
        rw [List.getElem?_append_left (by rw [List.length_map]; exact hik), List.getElem?_map, ha] at hz
        exact (Option.some.inj hz).symm
      have nma := (o.nm a haR).1
      refine ⟨_, rfl, chainS a, rfl, by omega, ?_, ?_⟩
      · rw [split_chain nma]
        intro h
        simp only [chainW, List.mem_cons, List.not_mem_nil, or_false] at h
        rcases h with h | h
        · exact absurd h (by decide +kernel)
        · have := (o.nm a haR).2.1
          rw [← h] at this
          exact absurd this (by decide +kernel)
      intro _ p H3 l3 np e3
      rw [split_chain nma] at e3
      refine ⟨fun _ _ => False, ?_, fun _ _ h => h.elim⟩
      obtain ⟨us, hus, hws⟩ := hu
      rw [show i - r.length = 0 by omega, List.take_zero] at hws
      cases hws
      have L3 := k1.trans l3
      refine ⟨_, rfl, Nat.zero_le _, fun q1 nq1 => ?_⟩
      have k4 := Le.new (o := .lst []) nq1
      have L4 := L3.trans k4
      refine ⟨u, q1, _, _, rfl, rfl, .of (L4 _ _ hus), .of upd_self, .inr rfl, _, rfl, ite2 (fun _ => ?_) (fun c => absurd rfl c)⟩
      refine ⟨_, rfl, _, rfl, .ref p, c, some (chainW a), r.take i, rfl, ⟨p, rfl, k4 _ _ e3⟩, L4 _ _ hc, ?_, by rw [List.length_take]; have := o.r6; omega, fun b H5 l5 hb5 => ?_⟩
      · rintro l ⟨⟩
        refine ⟨by show 2 ≤ _; decide, fun z hz => ?_⟩
        simp only [chainW, List.mem_cons, List.not_mem_nil, or_false] at hz
        rcases hz with rfl | rfl
        · decide +kernel
        · have := nma.2; omega
      have bt : b = true := hb5.mpr ⟨a, rfl, o.isname haR, nodup_take o.rn ha, by rw [List.length_take]; have := o.r6; omega⟩
      subst bt
      have L5 := L4.trans l5
      refine ⟨_, rfl, ite2 (fun _ => ?_) (fun c => absurd rfl c)⟩
      refine ⟨_, rfl, .inl ⟨rfl, _, .of (L5 _ _ hc)⟩, _, rfl, _, _, _, .str a, rfl, rfl, .of ((k4.trans l5) _ _ e3), atI_nat (j := 1) rfl, c, _, _, rfl, rfl, L5 _ _ hc, le_szl' (by rw [List.length_map, List.length_take]; have := o.r6; omega), ?_⟩
      refine ⟨fun x o2 h1 h2 h => by rw [upd_ne h1]; exact L5 _ _ (st x o2 h1 h2 h), ?_, ⟨[], by rw [upd_ne ncu.symm]; exact L5 _ _ hus, by rw [show i + 1 - r.length = 0 by omega, List.take_zero]; exact .nil⟩, _, _, _, _, rfl⟩
      show upd _ c _ c = _
      rw [upd_self, List.take_add_one, ha, List.map_append]
      rfl
    · -- a way
      obtain ⟨b, hb⟩ : ∃ b, ws[i - r.length]? = some b := by
        have hlen : (linesS r ws).length = r.length + ws.length := by unfold linesS; rw [List.length_append, List.length_map, List.length_map]
        rw [List.length_map, hlen] at hi
        exact ⟨_, List.getElem?_eq_getElem (by omega)⟩
      have hbW := List.mem_of_getElem? hb
      have hbi := (List.getElem?_eq_some_iff.mp hb).1
      obtain ⟨w1, w2, w3, w4⟩ := o.wi b hbW
      obtain rfl : z = wayS b := by
        unfold linesS at hz
        rw [List.getElem?_append_right (by rw [List.length_map]; omega), List.length_map, List.getElem?_map, hb] at hz
        exact (Option.some.inj hz).symm
      have n1 := (o.nm _ w1).1
      have n2 := (o.nm _ w2).1
      have num := numS_len (n := b.2.2) (k := 2) (by decide) (by omega)
      refine ⟨_, rfl, wayS b, rfl, by omega, ?_, ?_⟩
      · rw [split_way n1 n2]
        intro h
        simp only [wayW, List.mem_cons, List.not_mem_nil, or_false] at h
        rcases h with h | h | h | h | h | h
        · exact absurd h (by decide +kernel)
        · have := (o.nm _ w1).2.1
          rw [← h] at this
          exact absurd this (by decide +kernel)
        · exact absurd h (by decide +kernel)
        · have := (o.nm _ w2).2.1
          rw [← h] at this
          exact absurd this (by decide +kernel)
        · exact absurd h (by decide +kernel)
        · have := (num_is b.2.2)
          rw [← h] at this
          rcases this with ⟨l, e, _⟩ | ⟨e, _⟩
          · rw [show ("" : Str).cps.toList = [] by decide +kernel] at e
            cases e
          · exact absurd (by decide +kernel) e
      intro _ p H3 l3 np e3
      rw [split_way n1 n2] at e3
      rw [List.take_of_length_le (by omega)] at hc
      have L3 := k1.trans l3
      obtain ⟨us, hus, hws⟩ := hu
      have bnd : ∀ l, some (wayW b) = some l → l.length ≤ 1000000 ∧ ∀ z ∈ l, z.length ≤ 1000000 := by
        rintro l ⟨⟩
        refine ⟨by show 6 ≤ _; decide, fun z hz => ?_⟩
        simp only [wayW, List.mem_cons, List.not_mem_nil, or_false] at hz
        rcases hz with rfl | rfl | rfl | rfl | rfl | rfl
        · decide +kernel
        · have := n1.2; omega
        · decide +kernel
        · have := n2.2; omega
        · decide +kernel
        · omega
      refine ⟨fun σ' H' => Le H3 H' ∧ σ' = [some (.str (mapS r ws)), some (.ref c), some (.ref u), some (.int (i : Nat)), some (.str (wayS b)), some (.ref p), x6], ?_, ?_⟩
      · refine ⟨_, rfl, Nat.zero_le _, fun q1 nq1 => ?_⟩
        have k4 := Le.new (o := .lst []) nq1
        have L4 := L3.trans k4
        refine ⟨u, q1, _, _, rfl, rfl, .of (L4 _ _ hus), .of upd_self, .inr rfl, _, rfl, ite2 (fun _ => ?_) (fun _ => ⟨k4, rfl⟩)⟩
        refine ⟨_, rfl, _, rfl, .ref p, c, some (wayW b), r, rfl, ⟨p, rfl, k4 _ _ e3⟩, L4 _ _ hc, bnd, by have := o.r6; omega, fun bb H5 l5 hb5 => ?_⟩
        refine ⟨_, rfl, ite2 (fun e => ?_) (fun _ => ⟨k4.trans l5, rfl⟩)⟩
        obtain ⟨z, hz, _⟩ := hb5.mp e
        cases hz
      rintro σ2 H5 ⟨l5, rfl⟩
      have L5 := L3.trans l5
      refine ⟨_, rfl, _, rfl, .ref p, c, some (wayW b), r, rfl, ⟨p, rfl, l5 _ _ e3⟩, L5 _ _ hc, bnd, fun h => absurd ⟨numS b.2.2, rfl, w1, w2, num_is _, by omega, (int_numS (by omega)).1, w3, w4⟩ (h b), fun wy t H6 hwy l6 et => ?_⟩
      obtain rfl : wy = b := by
        obtain ⟨zz, g1, _, _, _, _, g2, _⟩ := hwy
        have g1 : wayW b = ([("from" : Str), wy.1, "to", wy.2.1, "by", zz] : List Str) := Option.some.inj g1
        unfold wayW at g1
        injection g1 with _ g1
        injection g1 with e1 g1
        injection g1 with _ g1
        injection g1 with e2 g1
        injection g1 with _ g1
        injection g1 with e3 _
        rw [← e3, (int_numS (show b.2.2.natAbs < 10 ^ 8 by omega)).1] at g2
        have e4 : b.2.2 = wy.2.2 := Option.some.inj g2
        exact (Prod.ext e1 (Prod.ext e2 e4)).symm
      have L6 := L5.trans l6
      have hws6 := hws.imp fun v x h => h.le L6
      have wat : WayAt H6 (.ref t) wy := ⟨t, rfl, et⟩
      have hok : ∀ x ∈ ws, WOk x := fun x hx => ⟨((o.nm _ (o.wi x hx).1).1).ok, ((o.nm _ (o.wi x hx).2.1).1).ok⟩
      refine ⟨fun σ' H' => H6 = H' ∧ σ' = [some (.str (mapS r ws)), some (.ref c), some (.ref u), some (.int (i : Nat)), some (.str (wayS wy)), some (.ref p), some (.ref t)], ?_, ?_⟩
      · refine ⟨_, rfl, rfl, _, rfl, ite2 (fun e => absurd (of_decide_eq_true e) (by simp)) (fun _ => ?_)⟩
        refine ⟨_, rfl, _, rfl, _, _, wat.dp, .lst (.of (L6 _ _ hus)) (dp_ways hws6), shaped_way (hok wy hbW), shaped_ways fun x hx => hok x (List.mem_of_mem_take hx), _, rfl, ?_⟩
        rw [any_ways]
        refine ite2 (fun e => ?_) (fun _ => ?_)
        · exact absurd (of_decide_eq_true e) (nodup_take o.wn hb)
        refine ⟨_, rfl, u, _, rfl, .inl (.of (L6 _ _ hus)), rfl, _, rfl, ite2 (fun e => ?_) fun _ => ⟨rfl, rfl⟩⟩
        have e := of_decide_eq_true e
        injection e with e
        have := hws6.len
        rw [List.length_take] at this
        have := o.w12
        omega
      rintro σ3 _ ⟨rfl, rfl⟩
      have hul := hws6.len
      rw [List.length_take] at hul
      refine ⟨_, rfl, .inl ⟨rfl, _, .of (L6 _ _ hus)⟩, _, rfl, u, _, _, rfl, rfl, L6 _ _ hus, le_szl' (by have := o.w12; omega), ?_⟩
      have lx : LeX u H6 (upd H6 u (.lst (us ++ [.ref t]))) := Le.refl.x.upd
      have keep : ∀ {v : V} {x : Str × Str × Int}, WayAt H6 v x → WayAt (upd H6 u (.lst (us ++ [.ref t]))) v x := fun ⟨tt, e, h⟩ => ⟨tt, e, lx _ _ (fun z => by rw [z, L6 _ _ hus] at h; cases h) h⟩
      refine ⟨fun x o2 h1 h2 h => by rw [upd_ne h2]; exact L6 _ _ (st x o2 h1 h2 h), ?_, ⟨_, upd_self, ?_⟩, _, _, _, _, rfl⟩
      · show upd _ u _ c = _
        rw [upd_ne ncu, List.take_of_length_le (by omega)]
        exact L6 _ _ hc
      · rw [show i + 1 - r.length = i - r.length + 1 by omega, take_snoc hb]
        exact (hws6.imp fun v x h => keep h).app (.cons (keep wat) .nil)
  · rintro σ' H' ⟨st, hc, hu, x3, x4, x5, x6, rfl⟩
    have hlen : (linesS r ws).length = r.length + ws.length := by unfold linesS; rw [List.length_append, List.length_map, List.length_map]
    rw [List.length_map, hlen] at hc hu
    rw [List.take_of_length_le (by omega)] at hc hu
    exact ⟨stH st, hc, hu, _, _, _, _, rfl⟩
end
end Od
end
section
set_option Elab.async false
set_option linter.all false
set_option maxRecDepth 100000
set_option maxHeartbeats 2000000
set_option autoImplicit false
/-! maps as things of the program -/
namespace Od
open PySem PySem.Spec PyProof.Rows L2 C8 Day
structure DMC (K : PySem.W.Frag) (mg : Str → Option Value) (X : Addr) : Prop where
  cl : Cls K X
  c : mg "Map" = some (.ref X)
  g : ∃ u, mg "Map" = some u ∧ L2.RelV (.ref X) u
  n_text : NoAttr K X "text"
  n_chains : NoAttr K X "chains"
  n_ways : NoAttr K X "ways"
  n_sums : NoAttr K X "sums_between"
  ne : PySem.W.findIn K (.ref X) "__ne__" = some (some (.builtin "object.__ne__"))
  ob : PySem.W.mroIn K X (.type "object") = some true
  ha : PySem.W.findIn K (.ref X) "__class__" = some (some (.builtin "object.__class__"))
  hn : PySem.W.specialIn K (.builtin "object.__class__") "__get__" = some (some (.builtin "getset_descriptor.__get__"))
  htk : PySem.W.takesIn K (.builtin "object.__class__") = some true
  isi : PySem.W.kitOne K (.ref X) (.ref X) = some true
abbrev s_Map___init__ : Stmt := inClass (top 45) 0
abbrev N_Map___init__ : List Str := ["self", "text", "chains", "ways"]
abbrev P_Map___init__ : List Str := ["self", "text"]
theorem sc_Map___init__ : FnScope N_Map___init__ P_Map___init__ (C8.fnScope s_Map___init__) := fnScope_by (by decide +kernel)
abbrev s_Map___eq__ : Stmt := inClass (top 45) 4
abbrev N_Map___eq__ : List Str := ["self", "other"]
abbrev P_Map___eq__ : List Str := ["self", "other"]
theorem sc_Map___eq__ : FnScope N_Map___eq__ P_Map___eq__ (C8.fnScope s_Map___eq__) := fnScope_by (by decide +kernel)
def fldM (z : Str) (pc pw d : Addr) : List (Str × V) := [("text", .str z), ("chains", .ref pc), ("ways", .ref pw), ("sums_between", .ref d)]
def fld1 (z : Str) : List (Str × V) := [("text", .str z)]
def fld2 (z : Str) (pc : Addr) : List (Str × V) := [("text", .str z), ("chains", .ref pc)]
def fld3 (z : Str) (pc pw : Addr) : List (Str × V) := [("text", .str z), ("chains", .ref pc), ("ways", .ref pw)]
/-- a map, beside the object itself -/
def MapIn (C : Addr) (H : Hp) (pc pw d : Addr) (r : Row) (ws : Ways) : Prop := H pc = some (.tup (r.map V.str)) ∧ (∃ us, H pw = some (.tup us) ∧ All2 (WayAt H) us ws) ∧ ∃ kvs, H d = some (.dT kvs) ∧ TabR C H kvs (fun a b => a ∈ r ∧ b ∈ r) (fR ws)
theorem MapIn.le {C : Addr} {H H' : Hp} {pc pw d : Addr} {r : Row} {ws : Ways} (h : MapIn C H pc pw d r ws) (l : Le H H') : MapIn C H' pc pw d r ws := by
  obtain ⟨h1, ⟨us, h2, h3⟩, kvs, h4, h5⟩ := h
  exact ⟨l _ _ h1, ⟨us, l _ _ h2, h3.imp fun v x h => h.le l⟩, kvs, l _ _ h4, h5.le l⟩
def IsMap (C X : Addr) (H : Hp) (p : Addr) (r : Row) (ws : Ways) : Prop := OkMap r ws ∧ ∃ dx pc pw d, H p = some (.ins X dx (fldM (mapS r ws) pc pw d)) ∧ MapIn C H pc pw d r ws
theorem IsMap.le {C X : Addr} {H H' : Hp} {p : Addr} {r : Row} {ws : Ways} (h : IsMap C X H p r ws) (l : Le H H') : IsMap C X H' p r ws := by
  obtain ⟨o, dx, pc, pw, d, h1, h2⟩ := h
  exact ⟨o, dx, pc, pw, d, l _ _ h1, h2.le l⟩
section
variable {P : Program} {w : World} {K : PySem.W.Frag} {mg : Str → Option Value} {base : Heap}
theorem WayAt.lxi {H H' : Hp} {x X dx : Addr} {fs : List (Str × V)} {v : V} {e : Str × Str × Int} (h : WayAt H v e) (l : LeX x H H') (hx : H x = some (.ins X dx fs)) : WayAt H' v e := by
  obtain ⟨t, e1, h⟩ := h
  exact ⟨t, e1, l _ _ (fun c => by rw [c, hx] at h; cases h) h⟩
theorem IsDay.lxf {C : Addr} {H H' : Hp} {x X dx p : Addr} {f : Int → Bool} {v : V} {fs : List (Str × V)} (h : IsDay C H p f) (l : LeX x H H') (hx : H x = some (.ins X dx (("text", v) :: fs))) : IsDay C H' p f := by
  obtain ⟨F, dy, L, z, m, e⟩ := h
  refine ⟨F, dy, L, z, m, l p _ (fun c => ?_) e⟩
  rw [c, hx] at e
  injection e with e
  injection e with _ _ e
  unfold fldF at e
  injection e with e
  injection e with e
  exact absurd e (by decide +kernel)
def sp_minit (C X : Addr) : Sp := fun vs H Q _ => ∃ (x dx : Addr) (r : Row) (ws : Ways) (P B S : Int), vs = [.ref x, .str (mapS r ws)] ∧ H x = some (.ins X dx []) ∧ OkMap r ws ∧ Good ws P B S ∧
  ∀ pc pw d H', LeX x H H' → H' x = some (.ins X dx (fldM (mapS r ws) pc pw d)) → MapIn C H' pc pw d r ws → Q .non H'
theorem k_minit {C X : Addr} (T : Txt K mg) (DM : DMC K mg X) (M : MakOf K X "Map.__init__" s_Map___init__ P_Map___init__) (C_read_map : Cal P w K mg base 4 "read_map" sp_readmap []) (C_reaches : Cal P w K mg base 12 "reaches" (sp_reaches C) []) : Mak P w K mg base 13 "Map" X (sp_minit C X) [] := by
  obtain ⟨f, fd, M, F, B⟩ := M
  refine mak0 M DM.c F B .nil sc_Map___init__ (fun vs H Q E h => by obtain ⟨_, _, _, _, _, _, _, rfl, _⟩ := h; rfl) (fun cdv A outer s H vs Q E hr h => ?_)
  obtain ⟨x, dx, r, ws, Pd, Bd, S, rfl, hx, o, g, qq⟩ := h
  have nd := sc_Map___init__.nd
  refine ⟨_, (pss_cons (ps_asg (pe_c C_read_map hr (by decide) rfl (pa_cons (pv 1) pa_nil)) (pg_tup rfl (pgs_cons (pg_name (i := 2) nd rfl (Or.inl rfl)) (pgs_cons (pg_name (i := 3) nd rfl (Or.inl rfl)) pgs_nil))))
      (pss_cons (ps_fld (pv 0) (pv 1) rfl)
      (pss_cons (ps_fld (pv 0) (pe_callTy call_tuple_of (by rfl) T.b_tuple (by decide +kernel) (pa_cons (pv 2) pa_nil)) rfl)
      (pss_cons (ps_fld (pv 0) (pe_callTy call_tuple_of (by rfl) T.b_tuple (by decide +kernel) (pa_cons (pv 3) pa_nil)) rfl)
      (pss_one (ps_fld (pv 0) (pe_c C_reaches hr (by decide) rfl (pa_cons (pv 2) (pa_cons (pv 3) pa_nil))) rfl)))))), ?_⟩
  refine ⟨_, rfl, r, ws, rfl, o, fun t c u H1 l1 et hc hu => ?_⟩
  refine ⟨t, _, rfl, .of et, rfl, _, _, rfl, _, _, rfl, rfl, ?_⟩
  have hx1 := l1 _ _ hx
  refine ⟨_, rfl, _, rfl, _, _, _, _, rfl, hx1, DM.cl, DM.n_text, by decide, ?_⟩
  have lx1 : LeX x H1 (upd H1 x (.ins X dx (putF "text" (.str (mapS r ws)) []))) := Le.refl.x.upd
  have hx2 : upd H1 x (.ins X dx (putF "text" (.str (mapS r ws)) [])) x = some (.ins X dx (fld1 (mapS r ws))) := upd_self
  have hc2 : upd H1 x (.ins X dx (putF "text" (.str (mapS r ws)) [])) c = some (.lst (r.map V.str)) := lx1 _ _ (fun e => by rw [← e, hc] at hx1; cases hx1) hc
  obtain ⟨us, hul, hus⟩ := id hu
  have hul2 := lx1 _ _ (fun e => by rw [← e, hul] at hx1; cases hx1) hul
  have hus2 := hus.imp fun v e h => h.lxi lx1 hx1
  have L2x : LeX x H (upd H1 x (.ins X dx (putF "text" (.str (mapS r ws)) []))) := l1.x.tr lx1
  generalize upd H1 x (.ins X dx (putF "text" (.str (mapS r ws)) [])) = H2 at lx1 hx2 hc2 hul2 hus2 L2x ⊢
  refine ⟨_, rfl, c, r.map V.str, rfl, .inl ⟨.of hc2, fun pc npc => ?_⟩⟩
  have k3 := Le.new (o := .tup (r.map V.str)) npc
  have hx3 := k3 _ _ hx2
  have epc : upd H2 pc (.tup (r.map V.str)) pc = some (.tup (r.map V.str)) := upd_self
  have nxpc : x ≠ pc := fun e => by rw [← e, hx2] at npc; cases npc
  refine ⟨_, rfl, _, _, _, _, rfl, hx3, DM.cl, DM.n_chains, (show 1 < 1000 by decide), ?_⟩
  have e4 : putF "chains" (.ref pc) (fld1 (mapS r ws)) = (fld2 (mapS r ws) pc) := by rfl
  rw [e4]
  have lx4 : LeX x (upd H2 pc (.tup (r.map V.str))) (upd (upd H2 pc (.tup (r.map V.str))) x (.ins X dx (fld2 (mapS r ws) pc))) := Le.refl.x.upd
  have hx4 : upd (upd H2 pc (.tup (r.map V.str))) x (.ins X dx (fld2 (mapS r ws) pc)) x = some (.ins X dx (fld2 (mapS r ws) pc)) := upd_self
  have epc4 := lx4 _ _ nxpc.symm epc
  have hc4 := lx4 _ _ (fun e => by rw [← e, hc2] at hx2; cases hx2) (k3 _ _ hc2)
  have hul4 := lx4 _ _ (fun e => by rw [← e, hul2] at hx2; cases hx2) (k3 _ _ hul2)
  have hus4 := hus2.imp fun v e h => (h.le k3).lxi lx4 hx3
  have L4x := (L2x.tr k3.x).tr lx4
  generalize upd (upd H2 pc (.tup (r.map V.str))) x (.ins X dx (fld2 (mapS r ws) pc)) = H4 at lx4 hx4 epc4 hc4 hul4 hus4 L4x ⊢
  clear lx4 hx3 epc k3 hc2 hul2 hus2 hx2 L2x
  refine ⟨_, rfl, u, us, rfl, .inl ⟨.of hul4, fun pw npw => ?_⟩⟩
  have k5 := Le.new (o := .tup us) npw
  have hx5 := k5 _ _ hx4
  have epw : upd H4 pw (.tup us) pw = some (.tup us) := upd_self
  have nxpw : x ≠ pw := fun e => by rw [← e, hx4] at npw; cases npw
  refine ⟨_, rfl, _, _, _, _, rfl, hx5, DM.cl, DM.n_ways, (show 2 < 1000 by decide), ?_⟩
  have e6 : putF "ways" (.ref pw) (fld2 (mapS r ws) pc) = (fld3 (mapS r ws) pc pw) := by rfl
  rw [e6]
  have lx6 : LeX x (upd H4 pw (.tup us)) (upd (upd H4 pw (.tup us)) x (.ins X dx (fld3 (mapS r ws) pc pw))) := Le.refl.x.upd
  have hx6 : upd (upd H4 pw (.tup us)) x (.ins X dx (fld3 (mapS r ws) pc pw)) x = some (.ins X dx (fld3 (mapS r ws) pc pw)) := upd_self
  have epc6 := lx6 _ _ nxpc.symm (k5 _ _ epc4)
  have epw6 := lx6 _ _ nxpw.symm epw
  have hc6 := lx6 _ _ (fun e => by rw [← e, hc4] at hx4; cases hx4) (k5 _ _ hc4)
  have hul6 := lx6 _ _ (fun e => by rw [← e, hul4] at hx4; cases hx4) (k5 _ _ hul4)
  have hus6 := hus4.imp fun v e h => (h.le k5).lxi lx6 hx5
  have L6x := (L4x.tr k5.x).tr lx6
  generalize upd (upd H4 pw (.tup us)) x (.ins X dx (fld3 (mapS r ws) pc pw)) = H6 at lx6 hx6 epc6 epw6 hc6 hul6 hus6 L6x ⊢
  clear lx6 hx5 epw k5 hc4 hul4 hus4 hx4 L4x epc4
  refine ⟨_, rfl, _, rfl, c, u, r, ws, Pd, Bd, S, rfl, hc6, o.r6, ⟨us, hul6, hus6⟩, o.w12, fun e he => (o.wi e he).2.1, fun e he => by have := o.wi e he; omega, g, fun d kvs H7 l7 nd7 ed td => ?_⟩
  have hx7 := l7 _ _ hx6
  refine ⟨_, rfl, _, _, _, _, rfl, hx7, DM.cl, DM.n_sums, (show 3 < 1000 by decide), ?_⟩
  have e8 : putF "sums_between" (.ref d) (fld3 (mapS r ws) pc pw) = fldM (mapS r ws) pc pw d := by rfl
  rw [e8]
  have lx8 : LeX x H7 (upd H7 x (.ins X dx (fldM (mapS r ws) pc pw d))) := Le.refl.x.upd
  refine qq pc pw d _ ((L6x.tr l7.x).tr lx8) upd_self ⟨lx8 _ _ nxpc.symm (l7 _ _ epc6), ⟨us, lx8 _ _ nxpw.symm (l7 _ _ epw6), hus6.imp fun v e h => (h.le l7).lxi lx8 hx7⟩, kvs, lx8 _ _ (fun e => by rw [e, hx7] at ed; cases ed) ed, fun a b h => ?_⟩
  obtain ⟨p, e1, e2⟩ := td a b h
  exact ⟨p, e1, e2.lxf lx8 hx7⟩
/-- a new map -/
theorem make_map {C X : Addr} {H : Hp} {Q : VK} {E : XK} {r : Row} {ws : Ways} {Pd Bd S : Int} (o : OkMap r ws) (g : Good ws Pd Bd S) (q : ∀ p H', Le H H' → IsMap C X H' p r ws → H p = none → Q (.ref p) H') :
    ∀ x dx, H x = none → H dx = none → dx ≠ x → sp_minit C X (.ref x :: ([.str (mapS r ws)] ++ [])) (upd (upd H dx (.own x)) x (.ins X dx [])) (fun v H2 => v = .non ∧ Q (.ref x) H2) E := by
  intro x dx hx hdx ne
  have l2 : Le H (upd (upd H dx (.own x)) x (.ins X dx [])) := (Le.new hdx).trans (Le.new (by rw [upd_ne (fun c => ne c.symm)]; exact hx))
  refine ⟨x, dx, r, ws, Pd, Bd, S, rfl, upd_self, o, g, fun pc pw d H' lx e0 hin => ⟨rfl, q x H' (fun a o2 ha => ?_) ⟨o, dx, pc, pw, d, e0, hin⟩ hx⟩⟩
  have c1 : a ≠ x := fun c => by subst c; rw [hx] at ha; cases ha
  exact lx a o2 c1 (l2 _ _ ha)
def sp_meq (C X : Addr) : Sp := fun vs H Q _ => ∃ (p q : Addr) (r r' : Row) (ws ws' : Ways), vs = [.ref p, .ref q] ∧ IsMap C X H p r ws ∧ IsMap C X H q r' ws' ∧ Q (.bl (decide (mapS r ws = mapS r' ws'))) H
theorem q_meq {C X : Addr} (T : Txt K mg) (DM : DMC K mg X) (M : MetOf K X "__eq__" "Map.__eq__" s_Map___eq__ P_Map___eq__) : Met P w K mg base 1 X "__eq__" (sp_meq C X) [] := by
  obtain ⟨g_, fd, M, F, B⟩ := M
  refine met0 DM.cl M F B sc_Map___eq__ (fun vs H Q E h => by obtain ⟨_, _, _, _, _, _, rfl, _⟩ := h; rfl) (fun cdv A outer s H vs Q E hr h => ?_)
  obtain ⟨p, q, r, r', ws, ws', rfl, ⟨_, dp, _, _, _, hp, _⟩, ⟨_, dq, _, _, _, hq, _⟩, qq⟩ := h
  have nd := sc_Map___eq__.nd
  refine ⟨_, (pss_one (ps_ret (pe_and (pe_callB call_isi (by rfl) T.b_isinstance (by decide +kernel) (pa_cons (pv 1) (pa_cons (pe_gc rfl DM.g) pa_nil))) (pe_one (pe_cmpR op_eq (pe_fld (pv 0) rfl) (pe_fld (pv 1) rfl) (nomark _)))))), ?_⟩
  refine ⟨_, rfl, _, _, _, _, true, rfl, .own X, .base (.ins hq DM.cl DM.ha DM.hn DM.htk DM.ob), DM.isi, true, rfl, ?_⟩
  refine ⟨_, rfl, _, _, _, _, _, rfl, hp, DM.cl, DM.n_text, rfl, _, rfl, _, _, _, _, _, rfl, hq, DM.cl, DM.n_text, rfl, rfl, ?_⟩
  have e : decide (V.str (mapS r ws) = V.str (mapS r' ws')) = decide (mapS r ws = mapS r' ws') := by
    rw [decide_eq_decide]
    exact ⟨fun h => by injection h, fun h => by rw [h]⟩
  show Q (.bl (decide (V.str (mapS r ws) = V.str (mapS r' ws')))) H
  rw [e]
  exact qq
end
end Od
end
section
set_option Elab.async false
set_option linter.all false
set_option maxRecDepth 100000
set_option autoImplicit false
/-! the weights of the simple rings of a map of at most four chains, as the laws list them -/
namespace Od
open PySem Day Wk
abbrev Wy := Str × Str × Int
def loops1 (ws : Ways) : List Int := ws.filterMap fun e => if e.1 = e.2.1 then some e.2.2 else none
def close4 (ws : Ways) (e1 e3 : Wy) (t : Int) : List Int := ws.filterMap fun e => if e.1 = e3.2.1 ∧ e.2.1 = e1.1 then some (t + e.2.2) else none
def ring3 (ws : Ways) (e1 e2 e3 : Wy) : List Int := if e3.1 = e2.2.1 ∧ e3.2.1 ∉ ([e1.1, e1.2.1, e2.2.1] : List Str) then close4 ws e1 e3 (e1.2.2 + e2.2.2 + e3.2.2) else []
def close3 (ws : Ways) (e1 e2 : Wy) : List Int := ws.filterMap fun e => if e.1 = e2.2.1 ∧ e.2.1 = e1.1 then some (e1.2.2 + e2.2.2 + e.2.2) else none
def pair2 (e1 e2 : Wy) : List Int := if e2.1 = e1.2.1 ∧ e2.2.1 = e1.1 then [e1.2.2 + e2.2.2] else []
def ring2 (ws : Ways) (e1 e2 : Wy) : List Int := pair2 e1 e2 ++ if e2.1 = e1.2.1 ∧ e2.2.1 ≠ e1.1 ∧ e2.2.1 ≠ e1.2.1 then close3 ws e1 e2 ++ ws.flatMap (ring3 ws e1 e2) else []
def ring1 (ws : Ways) (e1 : Wy) : List Int := if e1.1 = e1.2.1 then [] else ws.flatMap (ring2 ws e1)
def ringsL (ws : Ways) : List Int := loops1 ws ++ ws.flatMap (ring1 ws)
def absL (l : List Int) : List Int := l.filterMap fun x => if x ≠ 0 then some (x.natAbs : Int) else none
theorem flat_le {α β : Type} (f : α → List β) (k : Nat) (h : ∀ x, (f x).length ≤ k) : ∀ l : List α, (l.flatMap f).length ≤ l.length * k
  | [] => Nat.zero_le _
  | x :: l => by
    have := flat_le f k h l
    have := h x
    rw [List.flatMap_cons, List.length_append, List.length_cons, Nat.add_mul, Nat.one_mul]
    omega
theorem close4_len (ws : Ways) (e1 e3 : Wy) (t : Int) : (close4 ws e1 e3 t).length ≤ ws.length := List.length_filterMap_le _ _
theorem close3_len (ws : Ways) (e1 e2 : Wy) : (close3 ws e1 e2).length ≤ ws.length := List.length_filterMap_le _ _
theorem ring3_len (ws : Ways) (e1 e2 e3 : Wy) : (ring3 ws e1 e2 e3).length ≤ ws.length := by
  unfold ring3
  split
  · exact close4_len _ _ _ _
  · exact Nat.zero_le _
theorem pair2_len (e1 e2 : Wy) : (pair2 e1 e2).length ≤ 1 := by
  unfold pair2
  split
  · exact Nat.le_refl _
  · exact Nat.zero_le _
theorem ring2_len (ws : Ways) (e1 e2 : Wy) : (ring2 ws e1 e2).length ≤ 1 + (ws.length + ws.length * ws.length) := by
  unfold ring2
  have h1 := pair2_len e1 e2
  have h2 := close3_len ws e1 e2
  have h3 := flat_le (ring3 ws e1 e2) ws.length (ring3_len ws e1 e2) ws
  rw [List.length_append]
  split
  · rw [List.length_append]; omega
  · show _ + 0 ≤ _; omega
theorem ring1_len (ws : Ways) (e1 : Wy) : (ring1 ws e1).length ≤ ws.length * (1 + (ws.length + ws.length * ws.length)) := by
  unfold ring1
  split
  · exact Nat.zero_le _
  · exact flat_le _ _ (ring2_len ws e1) ws
/-- lengths of what is listed along the way, seven ways at most -/
theorem small7 {n : Nat} (h : n ≤ 7) : n * (1 + (n + n * n)) ≤ 399 ∧ n + n * (n * (1 + (n + n * n))) ≤ 2800 := by
  have h1 : n * n ≤ 49 := Nat.mul_le_mul h h
  have h2 : n * (1 + (n + n * n)) ≤ 7 * 57 := Nat.mul_le_mul h (by omega)
  have h3 : n * (n * (1 + (n + n * n))) ≤ 7 * 399 := Nat.mul_le_mul h h2
  omega
theorem take_flat_len {α β : Type} (f : α → List β) (l : List α) (i : Nat) : ((l.take i).flatMap f).length ≤ (l.flatMap f).length := by
  conv => rhs; rw [← List.take_append_drop i l, List.flatMap_append, List.length_append]
  omega
theorem ringsL_len {ws : Ways} (h : ws.length ≤ 7) : (ringsL ws).length ≤ 2800 := by
  have h1 : (loops1 ws).length ≤ ws.length := List.length_filterMap_le _ _
  have h2 := flat_le (ring1 ws) _ (ring1_len ws) ws
  have h3 := (small7 h).2
  unfold ringsL
  rw [List.length_append]
  omega
/-- each simple ring's weight is listed -/
theorem rings_all {ws : Ways} {V : List Str} (hV : ∀ e ∈ ws, e.1 ∈ V) (h4 : V.length ≤ 4) {y : Str} {ρ : Ways} (h : Ring ws y ρ) : tot ρ ∈ ringsL ws := by
  have hl : ρ.length ≤ 4 := by
    have := h.nd.length_le_of_subset (l₂ := V) fun x hx => by
      obtain ⟨e, he, rfl⟩ := List.mem_map.mp hx
      exact hV e (mem_E h.w e he)
    unfold srcs at this
    rw [List.length_map] at this
    omega
  obtain ⟨hw, hne, nd⟩ := h
  unfold ringsL
  match ρ, hl with
  | [], _ => exact absurd rfl hne
  | [e1], _ =>
    obtain ⟨m1, rfl, c1⟩ := hw
    have c1 : e1.2.1 = e1.1 := c1
    refine List.mem_append_left _ (List.mem_filterMap.mpr ⟨e1, m1, ?_⟩)
    rw [if_pos c1.symm, tot_cons]
    show some e1.2.2 = some (e1.2.2 + 0)
    rw [Int.add_zero]
  | [e1, e2], _ =>
    obtain ⟨m1, rfl, m2, s2, c2⟩ := hw
    have c2 : e2.2.1 = e1.1 := c2
    simp only [srcs, List.map_cons, List.map_nil, List.nodup_cons, List.mem_cons, List.not_mem_nil, or_false, not_false_eq_true] at nd
    refine List.mem_append_right _ (List.mem_flatMap.mpr ⟨e1, m1, ?_⟩)
    unfold ring1
    rw [if_neg (fun e => nd.1 (by rw [s2]; exact e))]
    refine List.mem_flatMap.mpr ⟨e2, m2, List.mem_append_left _ ?_⟩
    unfold pair2
    rw [if_pos ⟨s2, c2⟩, tot_cons, tot_cons]
    show e1.2.2 + (e2.2.2 + 0) ∈ _
    rw [Int.add_zero]
    exact List.mem_cons_self
  | [e1, e2, e3], _ =>
    obtain ⟨m1, rfl, m2, s2, m3, s3, c3⟩ := hw
    have c3 : e3.2.1 = e1.1 := c3
    simp only [srcs, List.map_cons, List.map_nil, List.nodup_cons, List.mem_cons, List.not_mem_nil, or_false, not_false_eq_true, not_or] at nd
    obtain ⟨⟨n12, n13⟩, n23, _⟩ := nd
    refine List.mem_append_right _ (List.mem_flatMap.mpr ⟨e1, m1, ?_⟩)
    unfold ring1
    rw [if_neg (fun e => n12 (by rw [s2]; exact e))]
    refine List.mem_flatMap.mpr ⟨e2, m2, List.mem_append_right _ ?_⟩
    rw [if_pos ⟨s2, fun e => n13 (by rw [s3]; exact e.symm), fun e => n23 (by rw [s3, s2]; exact e.symm)⟩]
    refine List.mem_append_left _ (List.mem_filterMap.mpr ⟨e3, m3, ?_⟩)
    rw [if_pos ⟨s3, c3⟩, tot_cons, tot_cons, tot_cons]
    show some _ = some (e1.2.2 + (e2.2.2 + (e3.2.2 + 0)))
    exact congrArg some (by omega)
  | [e1, e2, e3, e4], _ =>
    obtain ⟨m1, rfl, m2, s2, m3, s3, m4, s4, c4⟩ := hw
    have c4 : e4.2.1 = e1.1 := c4
    simp only [srcs, List.map_cons, List.map_nil, List.nodup_cons, List.mem_cons, List.not_mem_nil, or_false, not_false_eq_true, not_or] at nd
    obtain ⟨⟨n12, n13, n14⟩, ⟨n23, n24⟩, n34, _⟩ := nd
    refine List.mem_append_right _ (List.mem_flatMap.mpr ⟨e1, m1, ?_⟩)
    unfold ring1
    rw [if_neg (fun e => n12 (by rw [s2]; exact e))]
    refine List.mem_flatMap.mpr ⟨e2, m2, List.mem_append_right _ ?_⟩
    rw [if_pos ⟨s2, fun e => n13 (by rw [s3]; exact e.symm), fun e => n23 (by rw [s3, s2]; exact e.symm)⟩]
    refine List.mem_append_right _ (List.mem_flatMap.mpr ⟨e3, m3, ?_⟩)
    have hm : e3.2.1 ∉ ([e1.1, e1.2.1, e2.2.1] : List Str) := by
      simp only [List.mem_cons, List.not_mem_nil, or_false, not_or]
      exact ⟨fun e => n14 (by rw [s4]; exact e.symm), fun e => n24 (by rw [s4, s2]; exact e.symm), fun e => n34 (by rw [s4, s3]; exact e.symm)⟩
    unfold ring3
    rw [if_pos ⟨s3, hm⟩]
    refine List.mem_filterMap.mpr ⟨e4, m4, ?_⟩
    rw [if_pos ⟨s4, c4⟩, tot_cons, tot_cons, tot_cons, tot_cons]
    show some _ = some (e1.2.2 + (e2.2.2 + (e3.2.2 + (e4.2.2 + 0))))
    exact congrArg some (by omega)
/-- a drawn map's reaches are good -/
theorem good_drawn {ws : Ways} {V : List Str} {P : Int} (hs : ∀ e ∈ ws, e.1 ∈ V ∧ e.2.1 ∈ V ∧ -4 ≤ e.2.2 ∧ e.2.2 ≤ 4) (h4 : V.length ≤ 4) (p0 : 0 < P) (p1 : P ≤ 60) (hp : ∀ x ∈ ringsL ws, x ≠ 0 → P % x = 0) : Gr ws V 4 4 P ∧ Good ws P 253 84 := by
  have g : Gr ws V 4 4 P := ⟨fun e he => (hs e he).1, fun e he => (hs e he).2.1, h4, by decide, fun e he => (hs e he).2.2, p0, bare60 _ (List.mem_range.mpr (by omega)) (by omega), fun y r h h0 => hp _ (rings_all (fun e he => (hs e he).1) h4 h) h0⟩
  refine ⟨g, Good.of g (by decide) (by decide) (by decide) (by decide) (by decide) (by decide) (by omega) (by omega) (by decide) (by decide) ?_⟩
  omega
end Od
end
section
set_option Elab.async false
set_option linter.all false
set_option maxRecDepth 100000
set_option maxHeartbeats 2000000
set_option autoImplicit false
/-! the law's maps: rings, periods -/
namespace Od
open PySem PySem.Spec PyProof.Rows L2 C8 Day
abbrev s__law_rings : Stmt := top 53
abbrev N__law_rings : List Str := ["_law_plain", "_law_found", "_law_one", "_law_two", "_law_by", "_law_a", "_law_b", "_law_more", "_law_c", "_law_d", "_law_last", "_law_third", "_law_total", "_law_e", "_law_f", "_law_weight"]
abbrev P__law_rings : List Str := ["_law_plain"]
theorem sc__law_rings : FnScope N__law_rings P__law_rings (C8.fnScope s__law_rings) := fnScope_by (by decide +kernel)
abbrev s__law_period : Stmt := top 54
abbrev N__law_period : List Str := ["_law_plain", "_law_found", "_law_weight", "_law_step"]
abbrev P__law_period : List Str := ["_law_plain"]
theorem sc__law_period : FnScope N__law_period P__law_period (C8.fnScope s__law_period) := fnScope_by (by decide +kernel)
section
variable {P : Program} {w : World} {K : PySem.W.Frag} {mg : Str → Option Value} {base : Heap}
def plainV (q u : Addr) : List (Key × V) := [(.inr "chains", .ref q), (.inr "ways", .ref u)]
/-- a plain map -/
def PlainAt (H : Hp) (p : Addr) (r : Row) (ws : Ways) : Prop := ∃ q u, H p = some (.dK (plainV q u)) ∧ IsRow H q r ∧ WaysAt H u ws
theorem PlainAt.le {H H' : Hp} {p : Addr} {r : Row} {ws : Ways} (h : PlainAt H p r ws) (l : Le H H') : PlainAt H' p r ws := by
  obtain ⟨q, u, h1, h2, h3⟩ := h
  exact ⟨q, u, l _ _ h1, l _ _ h2, h3.le l⟩
theorem plain_ways {H : Hp} {p q u : Addr} (h : H p = some (.dK (plainV q u))) : DGet H p (kV (.inr "ways")) (some (.ref u)) := dget_of (k := .inr "ways") h (by rfl)
theorem plain_chains {H : Hp} {p q u : Addr} (h : H p = some (.dK (plainV q u))) : DGet H p (kV (.inr "chains")) (some (.ref q)) := dget_of (k := .inr "chains") h (by rfl)
/-- a comprehension over ways, with a test, that gives numbers -/
theorem lc_ways {J : It} {H1 : Hp} {D u : Addr} {us : List V} {ws : Ways} {g : TG} {tt : TT} {te : TE} {vs : List Nat} {σ : L2.St} {Qd : Hp → Prop} (w : Walk J us.length (fun H => SqL K H u us) (YAt us)) (hD : H1 D = none) (hu : H1 u = some (.lst us)) (hus : All2 (WayAt H1) us ws) (hn : ws.length ≤ 1000) (el : Wy → Option Int)
    (hs : ∀ (e : Wy) (t : Addr) (H : Hp), e ∈ ws → Le H1 H → H t = some (.tup [.str e.1, .str e.2.1, .int e.2.2]) → ∀ N : Option V → Hp → Prop, N ((el e).map V.int) H → g (.ref t) (wipe σ vs) H fun σ2 H2 => wipe σ2 vs = wipe σ vs ∧ tt σ2 H2 fun b H3 => if b = true then te σ2 H3 fun y H4 => N (some y) H4 else N none H3)
    (hd : ∀ H, Le H1 H → H D = some (.lst ((ws.filterMap el).map V.int)) → Qd H) :
    ∃ W : Nat → Nat → Hp → Prop, (∃ m, W 0 m (upd H1 D (.lst []))) ∧ ∀ i m H, W i m H →
      (J.stop i H ∧ Qd H) ∨ (J.go i H ∧ ∃ Nx : Hp → Prop, (∀ H', Nx H' → ∃ m', m' < m ∧ W (i + 1) m' H') ∧ ∀ x H', J.yld i H x H' → g x (wipe σ vs) H' fun σ2 H2 => wipe σ2 vs = wipe σ vs ∧ tt σ2 H2 fun b H3 =>
        if b = true then te σ2 H3 fun y H4 => ∃ acc, H4 D = some (.lst acc) ∧ acc.length < sizeLine ∧ Nx (upd H4 D (.lst (acc ++ [y]))) else Nx H3) := by
  have hlen := hus.len
  refine lc_pure w hD (le_szl _ (by omega)) (fun H le => .of (le _ _ hu)) yat_le (fun k => (ws[k]?).bind fun e => (el e).map V.int) ?_ ?_
  · rintro k x Hx Hy hk le ⟨rfl, hx⟩ N hN
    obtain ⟨e, he, t, rfl, ht⟩ := hus.get hx
    have hN := hN Hy .refl
    simp only [he, Option.bind_some] at hN
    exact hs e t Hy (List.mem_of_getElem? he) le (le _ _ ht) N hN
  · intro H le e
    refine hd H le ?_
    rw [hlen] at e
    rw [e]
    congr 2
    have key : ∀ (l : Ways), ((List.range l.length).filterMap fun k => (l[k]?).bind fun e => (el e).map V.int) = (l.filterMap el).map V.int := fun l => by
      induction l with
      | nil => rfl
      | cons x l ih =>
        rw [List.length_cons, List.range_succ_eq_map, List.filterMap_cons, List.filterMap_map]
        have e2 : (List.range l.length).filterMap ((fun k => ((x :: l)[k]?).bind fun e => (el e).map V.int) ∘ Nat.succ) = (l.filterMap el).map V.int := ih
        rw [e2]
        simp only [List.getElem?_cons_zero, Option.bind_some]
        rw [List.filterMap_cons]
        cases el x <;> rfl
    exact key ws
theorem str_t {a b : Str} (h : decide (V.str a = V.str b) = true) : a = b := by
  have h := of_decide_eq_true h
  injection h
theorem str_f {a b : Str} (h : ¬ decide (V.str a = V.str b) = true) : a ≠ b := fun e => h (decide_eq_true (by rw [e]))
theorem str_nt {a b : Str} (h : (!decide (V.str a = V.str b)) = true) : a ≠ b := fun e => by
  rw [e, decide_eq_true rfl] at h
  cases h
theorem str_nf {a b : Str} (h : ¬ (!decide (V.str a = V.str b)) = true) : a = b := by
  rw [Bool.not_eq_true', Bool.not_eq_false] at h
  exact str_t h
def sp_rings : Sp := fun vs H Q _ => ∃ (p : Addr) (r : Row) (ws : Ways), vs = [.ref p] ∧ PlainAt H p r ws ∧ ws.length ≤ 7 ∧ ∀ q H', Le H H' → H q = none → H' q = some (.lst ((absL (ringsL ws)).map V.int)) → Q (.ref q) H'
theorem c_rings (T : Txt K mg) (F : DefOf K mg "_law_rings" s__law_rings P__law_rings) : Cal P w K mg base 1 "_law_rings" sp_rings [] := by
  obtain ⟨f, fd, F, B⟩ := F
  refine cal0 F B .nil sc__law_rings (fun vs H Q E h => by obtain ⟨_, _, _, rfl, _⟩ := h; rfl) (fun cdv A outer s H vs Q E hr h => ?_)
  obtain ⟨p, r, ws, rfl, hp, h7, qq⟩ := h
  have nd := sc__law_rings.nd
  refine ⟨_, (pss_cons (ps_setLc (i := 1) (own := [("_law_one", 2), ("_law_two", 3), ("_law_by", 4)]) (g := (gTup K 3 (gCons (gName 2) (gCons (gName 3) (gCons (gName 4) gNil))))) (by rfl) nd rfl rfl (sw_true rfl rfl rfl (by decide +kernel)) (pi_list (pe_dget (Room.u1 hr) (pv 0) pe_str (fun _ _ => rfl))) (blkOk_by (own := [("_law_one", 2), ("_law_two", 3), ("_law_by", 4)]) (N := N__law_rings) (sc := C8.fnScope s__law_rings) (by decide +kernel)) (fun _ _ _ _ _ => (pg_tupK (K := K) rfl rfl (pgs_cons (pg_name (i := 2) nd rfl (Or.inl rfl) (Or.inr rfl)) (pgs_cons (pg_name (i := 3) nd rfl (Or.inl rfl) (Or.inr rfl)) (pgs_cons (pg_name (i := 4) nd rfl (Or.inl rfl) (Or.inr rfl)) pgs_nil))))) (fun _ _ _ _ _ => pts_one (pt_cmpR op_eq (pv 2) (pv 3) (nomark _))) (fun _ _ _ _ _ => (pv 4)))
      (C8.pss_cut (ps_for PassesOwn.never rfl (pi_list (pe_dget (Room.u1 hr) (pv 0) pe_str (fun _ _ => rfl))) (pg_tup rfl (pgs_cons (pg_name (i := 2) nd rfl (Or.inr rfl)) (pgs_cons (pg_name (i := 3) nd rfl (Or.inl rfl)) (pgs_cons (pg_name (i := 4) nd rfl (Or.inr rfl)) pgs_nil)))) (C8.pss_cut (ps_if (pt_cmpR op_eq (pv 2) (pv 3) (nomark _)) (pss_one ps_continue) pss_nil)
      (pss_one (ps_for PassesOwn.never rfl (pi_list (pe_dget (Room.u1 hr) (pv 0) pe_str (fun _ _ => rfl))) (pg_tup rfl (pgs_cons (pg_name (i := 5) nd rfl (Or.inl rfl)) (pgs_cons (pg_name (i := 6) nd rfl (Or.inr rfl)) (pgs_cons (pg_name (i := 7) nd rfl (Or.inr rfl)) pgs_nil)))) (C8.pss_cut (ps_if (PW.pt (pw_and (pt_cmpR op_eq (pv 5) (pv 3) (nomark _)) (pw_and1 (pt_cmpR op_eq (pv 6) (pv 2) (nomark _))))) (pss_one (ps_expr (pe_bm PySem.F.plainAttrs_list PySem.F.slot_list_append PySem.F.type_list_append mt_append (pv 1) (pa_cons (pe_op op_add (pv 4) (pv 7)) pa_nil)))) pss_nil)
      (pss_one (ps_if (PW.pt (pw_and (pt_cmpR op_eq (pv 5) (pv 3) (nomark _)) (pw_and (pt_cmpR op_ne (pv 6) (pv 2) (nomark _)) (pw_and1 (pt_cmpR op_ne (pv 6) (pv 3) (nomark _)))))) (pss_cons (ps_set (i := 1) nd rfl (Or.inl rfl) (pe_op op_cat (pv 1) (pe_lc (own := [("_law_c", 8), ("_law_d", 9), ("_law_last", 10)]) (g := (gTup K 3 (gCons (gName 8) (gCons (gName 9) (gCons (gName 10) gNil))))) (by rfl) nd (pi_list (pe_dget (Room.u1 hr) (pv 0) pe_str (fun _ _ => rfl))) (blkOk_by (own := [("_law_c", 8), ("_law_d", 9), ("_law_last", 10)]) (N := N__law_rings) (sc := C8.fnScope s__law_rings) (by decide +kernel)) (fun _ _ _ _ _ => (pg_tupK (K := K) rfl rfl (pgs_cons (pg_name (i := 8) nd rfl (Or.inl rfl) (Or.inr rfl)) (pgs_cons (pg_name (i := 9) nd rfl (Or.inl rfl) (Or.inr rfl)) (pgs_cons (pg_name (i := 10) nd rfl (Or.inl rfl) (Or.inr rfl)) pgs_nil))))) (fun _ _ _ _ _ => pts_one (PW.pt (pw_and (pt_cmpR op_eq (pv 8) (pv 6) (nomark _)) (pw_and1 (pt_cmpR op_eq (pv 9) (pv 2) (nomark _)))))) (fun _ _ _ _ _ => (pe_op op_add (pe_op op_add (pv 4) (pv 7)) (pv 10))))))
      (pss_one (ps_for PassesOwn.never rfl (pi_list (pe_dget (Room.u1 hr) (pv 0) pe_str (fun _ _ => rfl))) (pg_tup rfl (pgs_cons (pg_name (i := 8) nd rfl (Or.inl rfl)) (pgs_cons (pg_name (i := 9) nd rfl (Or.inr rfl)) (pgs_cons (pg_name (i := 11) nd rfl (Or.inl rfl)) pgs_nil)))) (pss_one (ps_if (PW.pt (pw_and (pt_cmpR op_eq (pv 8) (pv 6) (nomark _)) (pw_and1 (pt_cmpR op_notIn_seq (pv 9) (pe_tup (pa_cons (pv 2) (pa_cons (pv 3) (pa_cons (pv 6) pa_nil)))) (by rfl))))) (pss_cons (ps_set (i := 12) nd rfl (Or.inr rfl) (pe_op op_add (pe_op op_add (pv 4) (pv 7)) (pv 11)))
      (pss_one (ps_set (i := 1) nd rfl (Or.inl rfl) (pe_op op_cat (pv 1) (pe_lc (own := [("_law_e", 13), ("_law_f", 14), ("_law_last", 10)]) (g := (gTup K 3 (gCons (gName 13) (gCons (gName 14) (gCons (gName 10) gNil))))) (by rfl) nd (pi_list (pe_dget (Room.u1 hr) (pv 0) pe_str (fun _ _ => rfl))) (blkOk_by (own := [("_law_e", 13), ("_law_f", 14), ("_law_last", 10)]) (N := N__law_rings) (sc := C8.fnScope s__law_rings) (by decide +kernel)) (fun _ _ _ _ _ => (pg_tupK (K := K) rfl rfl (pgs_cons (pg_name (i := 13) nd rfl (Or.inl rfl) (Or.inr rfl)) (pgs_cons (pg_name (i := 14) nd rfl (Or.inl rfl) (Or.inr rfl)) (pgs_cons (pg_name (i := 10) nd rfl (Or.inl rfl) (Or.inr rfl)) pgs_nil))))) (fun _ _ _ _ _ => pts_one (PW.pt (pw_and (pt_cmpR op_eq (pv 13) (pv 9) (nomark _)) (pw_and1 (pt_cmpR op_eq (pv 14) (pv 2) (nomark _)))))) (fun _ _ _ _ _ => (pe_op op_add (pv 12) (pv 10)))))))) pss_nil))))) pss_nil)))))))
      (pss_one (ps_ret (pe_lc (own := [("_law_weight", 15)]) (g := gName 15) (by rfl) nd (pi_list (pv 1)) (blkOk_by (own := [("_law_weight", 15)]) (N := N__law_rings) (sc := C8.fnScope s__law_rings) (by decide +kernel)) (fun _ _ _ _ _ => pg_name (i := 15) nd rfl (Or.inl rfl)) (fun _ _ _ _ _ => pts_one (pt_cmpR op_ne (pv 15) pe_int (nomark _))) (fun _ _ _ _ _ => (pe_callB call_abs (by rfl) T.b_abs (by decide +kernel) (pa_cons (pe_callTy call_int1 (by rfl) T.b_int (by decide +kernel) (pa_cons (pv 15) pa_nil)) pa_nil)))))))), ?_⟩
  obtain ⟨q, u, hp, hq, us, hul, hus⟩ := hp
  refine ⟨_, rfl, p, _, rfl, plain_ways hp, u, rfl, ⟨_, .of hul⟩, fun D1 nD1 => ?_⟩
  refine lc_ways walk_list nD1 hul hus (by omega) (fun e => if e.1 = e.2.1 then some e.2.2 else none) ?_ ?_
  · intro e t Ha he le ht N hN
    refine ⟨t, _, rfl, .of ht, rfl, _, _, rfl, _, _, rfl, _, _, rfl, rfl, ⟨rfl, ?_⟩⟩
    refine ⟨_, rfl, _, rfl, rfl, _, rfl, ite2 (fun c => ?_) (fun c => ?_)⟩
    · rw [if_pos (str_t c)] at hN
      exact ⟨_, rfl, hN⟩
    · rw [if_neg (str_f c)] at hN
      exact hN
  intro H1 l1 e1
  have h2800 := ringsL_len h7
  have nq1 : H D1 = none := nD1
  have rlen : ∀ {l : List Int}, l.length ≤ 2800 → (l.map V.int).length ≤ sizeLine := fun {l} h => by rw [List.length_map]; exact le_szl _ (by omega)
  -- the state behind the loops
  refine ⟨fun σ' H' => Le H H' ∧ ∃ qf x2 x3 x4 x5 x6 x7 x8 x9 x10 x11 x12 x13 x14 x15, H qf = none ∧ H' qf = some (.lst ((ringsL ws).map V.int)) ∧ σ' = [some (.ref p), some (.ref qf), x2, x3, x4, x5, x6, x7, x8, x9, x10, x11, x12, x13, x14, x15], ?_, ?_⟩
  rotate_left
  · rintro σ' H' ⟨le, qf, x2, x3, x4, x5, x6, x7, x8, x9, x10, x11, x12, x13, x14, x15, nqf, hqf, rfl⟩
    refine ⟨_, rfl, qf, rfl, ⟨_, .of hqf⟩, fun D2 nD2 => ?_⟩
    refine lc_pure (walk_list (xs := (ringsL ws).map V.int)) nD2 (rlen h2800) (fun H le => .of (le _ _ hqf)) yat_le (fun k => ((ringsL ws)[k]?).bind fun x => if x ≠ 0 then some (.int (x.natAbs : Int)) else none) ?_ ?_
    · rintro k x Hx Hy hk lx ⟨rfl, hx⟩ N hN
      rw [List.getElem?_map, Option.map_eq_some_iff] at hx
      obtain ⟨n, hn, rfl⟩ := hx
      have hN := hN Hy .refl
      simp only [hn, Option.bind_some] at hN
      refine ⟨rfl, _, rfl, rfl, _, rfl, ite2 (fun c => ?_) (fun c => ?_)⟩
      · have n0 : n ≠ 0 := fun e => by
          rw [e] at c
          exact absurd c (by decide)
        rw [if_pos n0] at hN
        refine ⟨_, rfl, .inl ⟨_, rfl, _, rfl, ?_⟩⟩
        have e : (if n < 0 then -n else n) = (n.natAbs : Int) := by split <;> omega
        rw [e]
        exact hN
      · have n0 : ¬ n ≠ 0 := fun h => c (by
          rw [decide_eq_false (fun e => h (by injection e))]
          rfl)
        rw [if_neg n0] at hN
        exact hN
    intro H3 l3 e3
    refine qq D2 H3 (le.trans l3) (le.none nD2) ?_
    rw [e3]
    congr 2
    rw [List.length_map]
    have key : ∀ l : List Int, ((List.range l.length).filterMap fun k => (l[k]?).bind fun x => if x ≠ 0 then some (V.int (x.natAbs : Int)) else none) = (absL l).map V.int := fun l => by
      induction l with
      | nil => rfl
      | cons x l ih =>
        rw [List.length_cons, List.range_succ_eq_map, List.filterMap_cons, List.filterMap_map]
        have e2 : (List.range l.length).filterMap ((fun k => ((x :: l)[k]?).bind fun x => if x ≠ 0 then some (V.int (x.natAbs : Int)) else none) ∘ Nat.succ) = (absL l).map V.int := ih
        rw [e2]
        simp only [List.getElem?_cons_zero, Option.bind_some]
        unfold absL
        rw [List.filterMap_cons]
        by_cases c : x = 0
        · rw [if_neg (by simp [c]), if_neg (by simp [c])]
        · rw [if_pos c, if_pos c]
          rfl
    exact key _
  refine ⟨_, rfl, p, _, rfl, plain_ways (l1 _ _ hp), u, rfl, ⟨_, .of (l1 _ _ hul)⟩, ?_⟩
  refine for_list (xs := us) (fun i σ' H' => Le H H' ∧ ∃ qf x2 x3 x4 x5 x6 x7 x8 x9 x10 x11 x12 x13 x14 x15, H qf = none ∧ H' qf = some (.lst ((loops1 ws ++ (ws.take i).flatMap (ring1 ws)).map V.int)) ∧ σ' = [some (.ref p), some (.ref qf), x2, x3, x4, x5, x6, x7, x8, x9, x10, x11, x12, x13, x14, x15]) ?_ ?_ ?_ ?_
  · exact ⟨l1, D1, _, _, _, _, _, _, _, _, _, _, _, _, _, _, nD1, by rw [List.take_zero, List.flatMap_nil, List.append_nil]; exact e1, rfl⟩
  · rintro i σ' H' _ ⟨le, _⟩
    exact .of (le _ _ hul)
  · rintro i v σ' Ha hv ⟨le, qf, x2, x3, x4, x5, x6, x7, x8, x9, x10, x11, x12, x13, x14, x15, nqf, hqf, rfl⟩
    obtain ⟨w1, hw1, t1, rfl, ht1⟩ := hus.get hv
    have hw1m := List.mem_of_getElem? hw1
    have step1 : (ws.take (i + 1)).flatMap (ring1 ws) = (ws.take i).flatMap (ring1 ws) ++ ring1 ws w1 := by
      rw [take_snoc hw1, List.flatMap_append, List.flatMap_cons, List.flatMap_nil, List.append_nil]
    refine ⟨t1, _, rfl, .of (le _ _ ht1), rfl, _, _, rfl, _, _, rfl, _, _, rfl, rfl, ?_⟩
    refine ⟨fun σ' H' => w1.1 ≠ w1.2.1 ∧ H' = Ha ∧ σ' = [some (.ref p), some (.ref qf), some (.str w1.1), some (.str w1.2.1), some (.int w1.2.2), x5, x6, x7, x8, x9, x10, x11, x12, x13, x14, x15], ?_, ?_⟩
    · refine ⟨_, rfl, _, rfl, rfl, _, rfl, ite2 (fun c => ?_) (fun c => ⟨str_f c, rfl, rfl⟩)⟩
      have c := str_t c
      refine ⟨le, qf, _, _, _, _, _, _, _, _, _, _, _, _, _, _, nqf, ?_, rfl⟩
      rw [step1]
      unfold ring1
      rw [if_pos c, List.append_nil]
      exact hqf
    rintro σ1 H1 ⟨ne1, rfl, rfl⟩
    have r1 : ring1 ws w1 = ws.flatMap (ring2 ws w1) := by
      unfold ring1
      rw [if_neg ne1]
    rw [r1] at step1
    refine ⟨_, rfl, p, _, rfl, plain_ways (le _ _ hp), u, rfl, ⟨_, .of (le _ _ hul)⟩, ?_⟩
    have blen : ∀ {l : List Int} (j : Nat), l.length ≤ 500 → (loops1 ws ++ (ws.take i).flatMap (ring1 ws)).length ≤ 2800 := fun {l} j h => by
      have := take_flat_len (ring1 ws) ws i
      unfold ringsL at h2800
      rw [List.length_append] at h2800 ⊢
      omega
    have blen := blen (l := []) 0 (by decide)
    generalize hB : loops1 ws ++ (ws.take i).flatMap (ring1 ws) = B1 at hqf blen
    refine for_list (xs := us) (fun j σ' H' => Le H H' ∧ ∃ qf x5 x6 x7 x8 x9 x10 x11 x12 x13 x14 x15, H qf = none ∧ H' qf = some (.lst ((B1 ++ (ws.take j).flatMap (ring2 ws w1)).map V.int)) ∧ σ' = [some (.ref p), some (.ref qf), some (.str w1.1), some (.str w1.2.1), some (.int w1.2.2), x5, x6, x7, x8, x9, x10, x11, x12, x13, x14, x15]) ?_ ?_ ?_ ?_
    · exact ⟨le, qf, _, _, _, _, _, _, _, _, _, _, _, nqf, by rw [List.take_zero, List.flatMap_nil, List.append_nil]; exact hqf, rfl⟩
    · rintro j σ' H' _ ⟨le, _⟩
      exact .of (le _ _ hul)
    · clear nqf hqf le qf x5 x6 x7 x8 x9 x10 x11 x12 x13 x14 x15
      rintro j v σ' Hb hv ⟨le, qf, x5, x6, x7, x8, x9, x10, x11, x12, x13, x14, x15, nqf, hqf, rfl⟩
      obtain ⟨w2, hw2, t2, rfl, ht2⟩ := hus.get hv
      have step2 : (ws.take (j + 1)).flatMap (ring2 ws w1) = (ws.take j).flatMap (ring2 ws w1) ++ ring2 ws w1 w2 := by
        rw [take_snoc hw2, List.flatMap_append, List.flatMap_cons, List.flatMap_nil, List.append_nil]
      have len2 : ((ws.take j).flatMap (ring2 ws w1)).length ≤ 399 := by
        have h1 := flat_le (ring2 ws w1) _ (ring2_len ws w1) (ws.take j)
        have h2 : (ws.take j).length ≤ ws.length := by rw [List.length_take]; omega
        have h3 := (small7 h7).1
        have h4 := Nat.mul_le_mul_right (1 + (ws.length + ws.length * ws.length)) h2
        omega
      refine ⟨t2, _, rfl, .of (le _ _ ht2), rfl, _, _, rfl, _, _, rfl, _, _, rfl, rfl, ?_⟩
      refine ⟨fun σ' H' => Le H H' ∧ H' qf = some (.lst ((B1 ++ (ws.take j).flatMap (ring2 ws w1) ++ pair2 w1 w2).map V.int)) ∧ σ' = [some (.ref p), some (.ref qf), some (.str w1.1), some (.str w1.2.1), some (.int w1.2.2), some (.str w2.1), some (.str w2.2.1), some (.int w2.2.2), x8, x9, x10, x11, x12, x13, x14, x15], ?_, ?_⟩
      · have no : (¬ (w2.1 = w1.2.1 ∧ w2.2.1 = w1.1)) → Le H Hb ∧ Hb qf = some (.lst ((B1 ++ (ws.take j).flatMap (ring2 ws w1) ++ pair2 w1 w2).map V.int)) := fun h => by
          refine ⟨le, ?_⟩
          unfold pair2
          rw [if_neg h, List.append_nil]
          exact hqf
        refine ⟨_, rfl, _, rfl, rfl, _, rfl, ite2 (fun c => ?_) (fun c => ?_)⟩
        · refine ⟨_, rfl, _, rfl, rfl, _, rfl, ite2 (fun c2 => ?_) (fun c2 => ?_)⟩
          · refine ⟨_, rfl, .inl ⟨rfl, _, .of hqf⟩, _, rfl, _, rfl, _, _, rfl, rfl, qf, _, _, rfl, rfl, hqf, ?_, ?_⟩
            · rw [List.length_map, List.length_append]
              exact le_szl' (by omega)
            · refine ⟨le.upd nqf, ?_, rfl⟩
              unfold pair2
              rw [upd_self, if_pos ⟨str_t c, str_t c2⟩]
              simp only [List.map_append, List.map_cons, List.map_nil]
          · obtain ⟨g1, g2⟩ := no fun z => str_f c2 z.2
            exact ⟨g1, g2, rfl⟩
        · obtain ⟨g1, g2⟩ := no fun z => str_f c z.1
          exact ite2 (fun c => absurd c (by decide)) fun _ => ⟨g1, g2, rfl⟩
      rintro σ2 H2 ⟨le2, hqf2, rfl⟩
      have lenP := pair2_len w1 w2
      have fin : (¬ (w2.1 = w1.2.1 ∧ w2.2.1 ≠ w1.1 ∧ w2.2.1 ≠ w1.2.1)) → H2 qf = some (.lst ((B1 ++ (ws.take (j + 1)).flatMap (ring2 ws w1)).map V.int)) := fun h => by
        rw [step2]
        unfold ring2
        rw [if_neg h, List.append_nil, ← List.append_assoc]
        exact hqf2
      refine ⟨_, rfl, _, rfl, rfl, _, rfl, ite2 (fun c => ?_) (fun c => ?_)⟩
      rotate_left
      · exact ite2 (fun c => absurd c (by decide)) fun _ => ⟨le2, qf, _, _, _, _, _, _, _, _, _, _, _, nqf, fin fun z => str_f c z.1, rfl⟩
      have c := str_t c
      refine ⟨_, rfl, _, rfl, rfl, _, rfl, ite2 (fun c2 => ?_) (fun c2 => ?_)⟩
      rotate_left
      · exact ite2 (fun c => absurd c (by decide)) fun _ => ⟨le2, qf, _, _, _, _, _, _, _, _, _, _, _, nqf, fin fun z => z.2.1 (str_nf c2), rfl⟩
      have c2 := str_nt c2
      refine ⟨_, rfl, _, rfl, rfl, _, rfl, ite2 (fun c3 => ?_) (fun c3 => ?_)⟩
      rotate_left
      · exact ⟨le2, qf, _, _, _, _, _, _, _, _, _, _, _, nqf, fin fun z => z.2.2 (str_nf c3), rfl⟩
      have c3 := str_nt c3
      clear fin
      have r2 : ring2 ws w1 w2 = pair2 w1 w2 ++ (close3 ws w1 w2 ++ ws.flatMap (ring3 ws w1 w2)) := by
        unfold ring2
        rw [if_pos ⟨c, c2, c3⟩]
      rw [r2] at step2
      have hul2 := le2 _ _ hul
      refine ⟨_, rfl, _, rfl, p, _, rfl, plain_ways (le2 _ _ hp), u, rfl, ⟨_, .of hul2⟩, fun D3 nD3 => ?_⟩
      refine lc_ways walk_list nD3 hul2 (hus.imp fun v e h => h.le le2) (by omega) (fun e => if e.1 = w2.2.1 ∧ e.2.1 = w1.1 then some (w1.2.2 + w2.2.2 + e.2.2) else none) ?_ ?_
      · intro e t Hx he lx ht N hN
        refine ⟨t, _, rfl, .of ht, rfl, _, _, rfl, _, _, rfl, _, _, rfl, rfl, ⟨rfl, ?_⟩⟩
        refine ⟨_, rfl, _, rfl, rfl, _, rfl, ite2 (fun d1 => ?_) (fun d1 => ?_)⟩
        · refine ⟨_, rfl, _, rfl, rfl, _, rfl, ite2 (fun d2 => ?_) (fun d2 => ?_)⟩
          · rw [if_pos ⟨str_t d1, str_t d2⟩] at hN
            exact ⟨_, rfl, _, rfl, _, _, rfl, rfl, _, rfl, _, _, rfl, rfl, hN⟩
          · rw [if_neg fun z => str_f d2 z.2] at hN
            exact hN
        · rw [if_neg fun z => str_f d1 z.1] at hN
          exact ite2 (fun c => absurd c (by decide)) fun _ => hN
      intro H3 l3 e3
      have e3 : H3 D3 = some (.lst ((close3 ws w1 w2).map V.int)) := e3
      have c3l := close3_len ws w1 w2
      refine ⟨qf, D3, _, _, rfl, rfl, l3 _ _ hqf2, e3, ?_, fun L nL => ?_⟩
      · rw [List.length_map, List.length_map]
        simp only [List.length_append]
        exact le_szl _ (by omega)
      have l4 := Le.new (o := .lst ((B1 ++ (ws.take j).flatMap (ring2 ws w1) ++ pair2 w1 w2).map V.int ++ (close3 ws w1 w2).map V.int)) nL
      have le4 := (le2.trans l3).trans l4
      have eL : upd H3 L (.lst ((B1 ++ (ws.take j).flatMap (ring2 ws w1) ++ pair2 w1 w2).map V.int ++ (close3 ws w1 w2).map V.int)) L = some (.lst ((B1 ++ (ws.take j).flatMap (ring2 ws w1) ++ pair2 w1 w2 ++ close3 ws w1 w2).map V.int)) := by
        simp only [upd_self, List.map_append]
      have nL0 : H L = none := (le2.trans l3).none nL
      generalize upd H3 L (.lst ((B1 ++ (ws.take j).flatMap (ring2 ws w1) ++ pair2 w1 w2).map V.int ++ (close3 ws w1 w2).map V.int)) = H4 at l4 le4 eL ⊢
      have lenB : (B1 ++ (ws.take j).flatMap (ring2 ws w1) ++ pair2 w1 w2 ++ close3 ws w1 w2).length ≤ 3300 := by
        simp only [List.length_append]
        omega
      have hB2 : B1 ++ (ws.take (j + 1)).flatMap (ring2 ws w1) = B1 ++ (ws.take j).flatMap (ring2 ws w1) ++ pair2 w1 w2 ++ close3 ws w1 w2 ++ ws.flatMap (ring3 ws w1 w2) := by
        rw [step2]
        simp only [List.append_assoc]
      rw [hB2]
      generalize B1 ++ (ws.take j).flatMap (ring2 ws w1) ++ pair2 w1 w2 ++ close3 ws w1 w2 = B2 at eL lenB
      refine ⟨_, rfl, p, _, rfl, plain_ways (le4 _ _ hp), u, rfl, ⟨_, .of (le4 _ _ hul)⟩, ?_⟩
      refine for_list (xs := us) (fun k σ' H' => Le H H' ∧ ∃ qf x8 x9 x10 x11 x12 x13 x14 x15, H qf = none ∧ H' qf = some (.lst ((B2 ++ (ws.take k).flatMap (ring3 ws w1 w2)).map V.int)) ∧ σ' = [some (.ref p), some (.ref qf), some (.str w1.1), some (.str w1.2.1), some (.int w1.2.2), some (.str w2.1), some (.str w2.2.1), some (.int w2.2.2), x8, x9, x10, x11, x12, x13, x14, x15]) ?_ ?_ ?_ ?_
      · exact ⟨le4, L, _, _, _, _, _, _, _, _, nL0, by rw [List.take_zero, List.flatMap_nil, List.append_nil]; exact eL, rfl⟩
      · rintro k σ' H' _ ⟨le, _⟩
        exact .of (le _ _ hul)
      · clear x8 x9 x10 x11 x12 x13 x14 x15
        rintro k v σ' Hc hv ⟨le, qf, x8, x9, x10, x11, x12, x13, x14, x15, nqf, hqf, rfl⟩
        obtain ⟨w3, hw3, t3, rfl, ht3⟩ := hus.get hv
        have step3 : (ws.take (k + 1)).flatMap (ring3 ws w1 w2) = (ws.take k).flatMap (ring3 ws w1 w2) ++ ring3 ws w1 w2 w3 := by
          rw [take_snoc hw3, List.flatMap_append, List.flatMap_cons, List.flatMap_nil, List.append_nil]
        have len3 : ((ws.take k).flatMap (ring3 ws w1 w2)).length ≤ 49 := by
          have h1 := flat_le (ring3 ws w1 w2) _ (ring3_len ws w1 w2) (ws.take k)
          have h2 : (ws.take k).length ≤ ws.length := by rw [List.length_take]; omega
          have h4 : (ws.take k).length * ws.length ≤ 7 * 7 := Nat.mul_le_mul (by omega) h7
          omega
        have no : (¬ (w3.1 = w2.2.1 ∧ w3.2.1 ∉ ([w1.1, w1.2.1, w2.2.1] : List Str))) → Hc qf = some (.lst ((B2 ++ (ws.take (k + 1)).flatMap (ring3 ws w1 w2)).map V.int)) := fun h => by
          rw [step3]
          unfold ring3
          rw [if_neg h, List.append_nil]
          exact hqf
        refine ⟨t3, _, rfl, .of (le _ _ ht3), rfl, _, _, rfl, _, _, rfl, _, _, rfl, rfl, ?_⟩
        refine ⟨_, rfl, _, rfl, rfl, _, rfl, ite2 (fun d1 => ?_) (fun d1 => ?_)⟩
        rotate_left
        · exact ite2 (fun c => absurd c (by decide)) fun _ => ⟨le, qf, _, _, _, _, _, _, _, _, nqf, no fun z => str_f d1 z.1, rfl⟩
        have d1 := str_t d1
        refine ⟨_, rfl, _, rfl, _, rfl, _, rfl, le_szl 3 (by decide), fun tt ntt => ?_⟩
        have k1 := Le.new (o := .tup [.str w1.1, .str w1.2.1, .str w2.2.1]) ntt
        refine ⟨_, _, rfl, .inr (.of upd_self), rfl, rfl, _, rfl, ?_⟩
        show if (!inV (.str w3.2.1) ((([w1.1, w1.2.1, w2.2.1] : List Str)).map V.str)) = true then _ else _
        rw [inV_str]
        have le5 := le.trans k1
        have hqf5 := k1 _ _ hqf
        have no5 := fun h => k1 _ _ (no h)
        generalize upd Hc tt (.tup [.str w1.1, .str w1.2.1, .str w2.2.1]) = H5 at k1 le5 hqf5 no5 ⊢
        by_cases d2 : w3.2.1 ∈ ([w1.1, w1.2.1, w2.2.1] : List Str)
        · rw [decide_eq_true d2]
          exact ite2 (fun c => absurd c (by decide)) fun _ => ⟨le5, qf, _, _, _, _, _, _, _, _, nqf, no5 fun z => z.2 d2, rfl⟩
        rw [decide_eq_false d2]
        refine ite2 (fun _ => ?_) (fun c => absurd rfl c)
        have r3 : ring3 ws w1 w2 w3 = close4 ws w1 w3 (w1.2.2 + w2.2.2 + w3.2.2) := by
          unfold ring3
          rw [if_pos ⟨d1, d2⟩]
        rw [r3] at step3
        refine ⟨_, rfl, _, rfl, _, _, rfl, rfl, _, rfl, _, _, rfl, rfl, ?_⟩
        have hul5 := le5 _ _ hul
        refine ⟨_, rfl, _, rfl, p, _, rfl, plain_ways (le5 _ _ hp), u, rfl, ⟨_, .of hul5⟩, fun D4 nD4 => ?_⟩
        refine lc_ways walk_list nD4 hul5 (hus.imp fun v e h => h.le le5) (by omega) (fun e => if e.1 = w3.2.1 ∧ e.2.1 = w1.1 then some (w1.2.2 + w2.2.2 + w3.2.2 + e.2.2) else none) ?_ ?_
        · intro e t Hx he lx ht N hN
          refine ⟨t, _, rfl, .of ht, rfl, _, _, rfl, _, _, rfl, _, _, rfl, rfl, ⟨rfl, ?_⟩⟩
          refine ⟨_, rfl, _, rfl, rfl, _, rfl, ite2 (fun d1 => ?_) (fun d1 => ?_)⟩
          · refine ⟨_, rfl, _, rfl, rfl, _, rfl, ite2 (fun d2 => ?_) (fun d2 => ?_)⟩
            · rw [if_pos ⟨str_t d1, str_t d2⟩] at hN
              exact ⟨_, rfl, _, rfl, _, _, rfl, rfl, hN⟩
            · rw [if_neg fun z => str_f d2 z.2] at hN
              exact hN
          · rw [if_neg fun z => str_f d1 z.1] at hN
            exact ite2 (fun c => absurd c (by decide)) fun _ => hN
        intro H6 l6 e6
        have e6 : H6 D4 = some (.lst ((close4 ws w1 w3 (w1.2.2 + w2.2.2 + w3.2.2)).map V.int)) := e6
        have c4l := close4_len ws w1 w3 (w1.2.2 + w2.2.2 + w3.2.2)
        refine ⟨qf, D4, _, _, rfl, rfl, l6 _ _ hqf5, e6, ?_, fun L2' nL2 => ?_⟩
        · rw [List.length_map, List.length_map]
          simp only [List.length_append]
          exact le_szl _ (by omega)
        refine ⟨(le5.trans l6).trans (Le.new nL2), L2', _, _, _, _, _, _, _, _, (le5.trans l6).none nL2, ?_, rfl⟩
        simp only [upd_self, step3, List.map_append, List.append_assoc]
      · rintro σ' H' ⟨le, qf, x8, x9, x10, x11, x12, x13, x14, x15, nqf, hqf, rfl⟩
        rw [hus.len, List.take_length] at hqf
        exact ⟨le, qf, _, _, _, _, _, _, _, _, _, _, _, nqf, hqf, rfl⟩
    · rintro σ' H' ⟨le, qf, x5, x6, x7, x8, x9, x10, x11, x12, x13, x14, x15, nqf, hqf, rfl⟩
      rw [hus.len, List.take_length] at hqf
      refine ⟨le, qf, _, _, _, _, _, _, _, _, _, _, _, _, _, _, nqf, ?_, rfl⟩
      rw [step1, ← List.append_assoc, hB]
      exact hqf
  · rintro σ' H' ⟨le, qf, x2, x3, x4, x5, x6, x7, x8, x9, x10, x11, x12, x13, x14, x15, nqf, hqf, rfl⟩
    rw [hus.len, List.take_length] at hqf
    exact ⟨le, qf, _, _, _, _, _, _, _, _, _, _, _, _, _, _, nqf, hqf, rfl⟩
def sp_period : Sp := fun vs H Q _ => ∃ (p : Addr) (r : Row) (ws : Ways), vs = [.ref p] ∧ PlainAt H p r ws ∧ ws.length ≤ 7 ∧ ∀ (P : Int) H', Le H H' → 0 < P → (∀ x ∈ ringsL ws, x ≠ 0 → P % x = 0) → (ws = [] → P = 1) → Q (.int P) H'
theorem c_period (T : Txt K mg) (F : DefOf K mg "_law_period" s__law_period P__law_period) (C__law_rings : Cal P w K mg base 1 "_law_rings" sp_rings []) : Cal P w K mg base 2 "_law_period" sp_period [] := by
  obtain ⟨f, fd, F, B⟩ := F
  refine cal0 F B .nil sc__law_period (fun vs H Q E h => by obtain ⟨_, _, _, rfl, _⟩ := h; rfl) (fun cdv A outer s H vs Q E hr h => ?_)
  obtain ⟨p, r, ws, rfl, hp, h7, qq⟩ := h
  have nd := sc__law_period.nd
  refine ⟨_, (pss_cons (ps_set (i := 1) nd rfl (Or.inl rfl) pe_int)
      (C8.pss_cut (ps_for PassesOwn.never rfl (pi_list (pe_c C__law_rings hr (by decide) rfl (pa_cons (pv 0) pa_nil))) (pg_name (i := 2) nd rfl (Or.inl rfl)) (pss_cons (ps_set (i := 3) nd rfl (Or.inl rfl) (pv 1))
      (pss_one (ps_while PassesOwn.never (pt_cmpR op_ne (pe_op op_mod (pv 1) (pv 2)) pe_int (nomark _)) (pss_one (ps_set (i := 1) nd rfl (Or.inl rfl) (pe_op op_add (pv 1) (pv 3))))))))
      (pss_one (ps_ret (pv 1))))), ?_⟩
  -- the loop over the weights
  refine ⟨fun σ' H' => ∃ (P : Int) (x2 x3 : Option V), Le H H' ∧ 0 < P ∧ (∀ x ∈ absL (ringsL ws), P % x = 0) ∧ (absL (ringsL ws) = [] → P = 1) ∧ σ' = [some (.ref p), some (.int P), x2, x3], ?_, ?_⟩
  rotate_left
  · rintro σ' H' ⟨Pd, x2, x3, le, p0, hd, h1, rfl⟩
    refine ⟨_, rfl, qq Pd H' le p0 (fun x hx h0 => ?_) fun e => h1 (by rw [e]; rfl)⟩
    have := hd (x.natAbs : Int) (List.mem_filterMap.mpr ⟨x, hx, by rw [if_pos h0]⟩)
    rcases Int.natAbs_eq x with e | e
    · rw [e]; exact this
    · rw [e, Int.emod_neg]; exact this
  refine ⟨_, rfl, p, r, ws, rfl, hp, h7, fun q H1 l1 nq e1 => ?_⟩
  refine ⟨q, rfl, ⟨_, .of e1⟩, ?_⟩
  have pos : ∀ x ∈ absL (ringsL ws), 0 < x := fun x hx => by
    obtain ⟨y, _, h⟩ := List.mem_filterMap.mp hx
    by_cases c : y = 0
    · rw [if_neg (by simp [c])] at h; cases h
    · rw [if_pos c] at h
      have := Option.some.inj h
      omega
  generalize absL (ringsL ws) = L at e1 pos ⊢
  refine for_list (xs := L.map V.int) (fun i σ' H' => H' = H1 ∧ ∃ (P : Int) (x2 x3 : Option V), 0 < P ∧ (∀ x ∈ L.take i, P % x = 0) ∧ (i = 0 → P = 1) ∧ σ' = [some (.ref p), some (.int P), x2, x3]) ?_ ?_ ?_ ?_
  · exact ⟨rfl, 1, none, none, by decide, fun x hx => (by simp at hx), fun _ => rfl, rfl⟩
  · rintro i σ' H' _ ⟨rfl, _⟩
    exact .of e1
  · rintro i v σ' H' hv ⟨rfl, Pd, x2, x3, p0, hd, h1, rfl⟩
    rw [List.getElem?_map, Option.map_eq_some_iff] at hv
    obtain ⟨x, hx, rfl⟩ := hv
    have x0 := pos x (List.mem_of_getElem? hx)
    refine ⟨_, rfl, ?_⟩
    have takes : ∀ {k : Int}, (Pd * k) % x = 0 → ∀ z ∈ L.take (i + 1), (Pd * k) % z = 0 := fun {k} hk z hz => by
      rw [List.take_add_one, hx] at hz
      rcases List.mem_append.mp hz with hz | hz
      · exact Int.emod_eq_zero_of_dvd (Int.dvd_trans (Int.dvd_of_emod_eq_zero (hd z hz)) (Int.dvd_mul_right _ _))
      · rw [show z = x from List.mem_singleton.mp hz]
        exact hk
    refine ⟨fun m σ2 H2 => H' = H2 ∧ ∃ k : Int, 1 ≤ k ∧ k ≤ x ∧ m = (x - k).toNat ∧ σ2 = [some (.ref p), some (.int (Pd * k)), some (.int x), some (.int Pd)], ⟨(x - 1).toNat, rfl, 1, Int.le_refl 1, by omega, rfl, by rw [Int.mul_one]; rfl⟩, ?_⟩
    rintro m σ' H2 ⟨rfl, k, k1, k2, rfl, rfl⟩
    refine ⟨_, rfl, _, rfl, _, _, rfl, rfl, x0, rfl, _, rfl, ite2 (fun c => ?_) (fun c => ?_)⟩
    · have c : (!decide (V.int ((Pd * k) % x) = V.int 0)) = true := c
      have c0 : (Pd * k) % x ≠ 0 := fun e => by
        rw [e] at c
        exact absurd c (by decide)
      have kx : k ≠ x := fun e => c0 (by rw [e]; exact Int.mul_emod_left _ _)
      refine ⟨fun σ2 H2 => H' = H2 ∧ σ2 = [some (.ref p), some (.int (Pd * k + Pd)), some (.int x), some (.int Pd)], ?_, ⟨_, rfl, _, rfl, _, _, rfl, rfl, rfl, rfl⟩⟩
      rintro σ2 H2 ⟨rfl, rfl⟩
      exact ⟨(x - (k + 1)).toNat, by omega, rfl, k + 1, by omega, by omega, rfl, by rw [Int.mul_add, Int.mul_one]⟩
    · have c : ¬ (!decide (V.int ((Pd * k) % x) = V.int 0)) = true := c
      have c0 : (Pd * k) % x = 0 := Classical.byContradiction fun h => c (by
        rw [decide_eq_false (fun e => h (by injection e))]
        rfl)
      exact ⟨rfl, Pd * k, _, _, Int.mul_pos p0 (by omega), takes c0, fun h => (by omega), rfl⟩
  · rintro σ' H' ⟨rfl, Pd, x2, x3, p0, hd, h1, rfl⟩
    rw [List.length_map, List.take_length] at hd
    exact ⟨Pd, x2, x3, l1, p0, hd, fun e => h1 (by rw [e]; rfl), rfl⟩
end
end Od
end
section
set_option Elab.async false
set_option linter.all false
set_option maxRecDepth 100000
set_option maxHeartbeats 2000000
set_option autoImplicit false
/-! the law's maps: drawn, written -/
namespace Od
open PySem PySem.Spec PyProof.Rows L2 C8 Day Wk
abbrev s__law_map : Stmt := top 55
abbrev N__law_map : List Str := ["_law_pen_here", "_law_most", "_law_ways", "_law_plain", "_law_far", "_law_k", "_law_one", "_law_two", "_law_way"]
abbrev P__law_map : List Str := ["_law_pen_here", "_law_most", "_law_ways"]
theorem sc__law_map : FnScope N__law_map P__law_map (C8.fnScope s__law_map) := fnScope_by (by decide +kernel)
abbrev s__law_map_text : Stmt := top 56
abbrev N__law_map_text : List Str := ["_law_plain", "_law_lines", "_law_name", "_law_one", "_law_two", "_law_by"]
abbrev P__law_map_text : List Str := ["_law_plain"]
theorem sc__law_map_text : FnScope N__law_map_text P__law_map_text (C8.fnScope s__law_map_text) := fnScope_by (by decide +kernel)
section
variable {P : Program} {w : World} {K : PySem.W.Frag} {mg : Str → Option Value} {base : Heap}
theorem fm_at {α β : Type} (l : List α) (g : α → β) : ((List.range l.length).filterMap fun k => (l[k]?).map g) = l.map g := by
  induction l with
  | nil => rfl
  | cons x l ih =>
    rw [List.length_cons, List.range_succ_eq_map, List.filterMap_cons, List.filterMap_map]
    have e2 : (List.range l.length).filterMap ((fun k => ((x :: l)[k]?).map g) ∘ Nat.succ) = l.map g := ih
    rw [e2]
    rfl
/-- a drawn map -/
structure DrawnM (r : Row) (ws : Ways) (N W : Nat) (Pd : Int) : Prop where
  ok : OkMap r ws
  rl : r.length ≤ N
  wl : ws.length ≤ W
  by_ : ∀ e ∈ ws, -4 ≤ e.2.2 ∧ e.2.2 ≤ 4
  p0 : 0 < Pd
  p1 : Pd ≤ 60
  pd : ∀ x ∈ ringsL ws, x ≠ 0 → Pd % x = 0
theorem DrawnM.good {r : Row} {ws : Ways} {N W : Nat} {Pd : Int} (h : DrawnM r ws N W Pd) (hN : N ≤ 4) : Gr ws r 4 4 Pd ∧ Good ws Pd 253 84 :=
  good_drawn (fun e he => ⟨(h.ok.wi e he).1, (h.ok.wi e he).2.1, h.by_ e he⟩) (by have := h.rl; omega) h.p0 h.p1 h.pd
theorem all2_drop {α : Type} {R : V → α → Prop} {us : List V} {ws : List α} (h : All2 R us ws) : All2 R us.dropLast ws.dropLast := by
  induction h with
  | nil => exact .nil
  | @cons v vs s S h1 h2 ih =>
    cases h2 with
    | nil => exact .nil
    | cons h3 h4 => exact .cons h1 ih
theorem make_mapR {C X : Addr} {H : Hp} {R : Addr → Hp → Prop} {E : XK} {r : Row} {ws : Ways} {Pd Bd S : Int} (o : OkMap r ws) (g : Good ws Pd Bd S) (q : ∀ p H', Le H H' → IsMap C X H' p r ws → H p = none → R p H') :
    ∀ x dx, H x = none → H dx = none → dx ≠ x → sp_minit C X (.ref x :: ([.str (mapS r ws)] ++ [])) (upd (upd H dx (.own x)) x (.ins X dx [])) (fun v H2 => v = .non ∧ R x H2) E := by
  intro x dx hx hdx ne
  have l2 : Le H (upd (upd H dx (.own x)) x (.ins X dx [])) := (Le.new hdx).trans (Le.new (by rw [upd_ne (fun c => ne c.symm)]; exact hx))
  refine ⟨x, dx, r, ws, Pd, Bd, S, rfl, upd_self, o, g, fun pc pw d H' lx e0 hin => ⟨rfl, q x H' (fun a o2 ha => ?_) ⟨o, dx, pc, pw, d, e0, hin⟩ hx⟩⟩
  have c1 : a ≠ x := fun c => by subst c; rw [hx] at ha; cases ha
  exact lx a o2 c1 (l2 _ _ ha)
def sp_lmap : Sp := fun vs H Q _ => ∃ (d dl : Addr) (n : Int) (N W : Nat), vs = [.ref d, .int (N : Int), .int (W : Int)] ∧ IsPen H d dl n ∧ n ≤ 500000000 ∧ 1 ≤ N ∧ N ≤ 4 ∧ W ≤ 7 ∧
  ∀ p r ws Pd H', LeX d H H' → IsPen H' d dl (n + 200) → H p = none → PlainAt H' p r ws → DrawnM r ws N W Pd → Q (.ref p) H'
theorem c_lmap (T : Txt K mg) (F : DefOf K mg "_law_map" s__law_map P__law_map) (C__law_draw : Cal P w K mg base 1 "_law_draw" sp_draw []) (C__law_pick : Cal P w K mg base 2 "_law_pick" sp_pick []) (C__law_names : Cal P w K mg base 3 "_law_names" sp_names []) (C__law_period : Cal P w K mg base 2 "_law_period" sp_period []) : Cal P w K mg base 4 "_law_map" sp_lmap [] := by
  obtain ⟨f, fd, F, B⟩ := F
  refine cal0 F B .nil sc__law_map (fun vs H Q E h => by obtain ⟨_, _, _, _, _, rfl, _⟩ := h; rfl) (fun cdv A outer s H vs Q E hr h => ?_)
  obtain ⟨d, dl, n, N, W, rfl, pn, n1, N1, N4, W7, qq⟩ := h
  have nd := sc__law_map.nd
  refine ⟨_, (pss_cons (ps_set (i := 3) nd rfl (Or.inl rfl) (pe_disp (pps_cons pe_str (pe_c C__law_names hr (by decide) rfl (pa_cons (pv 0) (pa_cons (pe_op op_add pe_int (pe_c C__law_draw hr (by decide) rfl (pa_cons (pv 0) (pa_cons (pv 1) pa_nil)))) pa_nil))) (pps_cons pe_str (pe_lst pa_nil) pps_nil)) (by rfl) (by rfl) (by simp) (by decide)))
      (pss_cons (ps_set (i := 4) nd rfl (Or.inl rfl) (pe_op op_add pe_int (pe_c C__law_draw hr (by decide) rfl (pa_cons (pv 0) (pa_cons pe_int pa_nil)))))
      (C8.pss_cut (ps_for PassesOwn.never rfl (pi_range1 (by rfl) T.b_range (pa_cons (pe_c C__law_draw hr (by decide) rfl (pa_cons (pv 0) (pa_cons (pe_op op_add (pv 2) pe_int) pa_nil))) pa_nil)) (pg_name (i := 5) nd rfl (Or.inl rfl)) (pss_cons (ps_par (i := 6) (j := 7) (by rfl) nd rfl rfl (by decide) rfl rfl (pa_cons (pe_c C__law_pick hr (by decide) rfl (pa_cons (pv 0) (pa_cons (pe_dget (Room.u1 hr) (pv 3) pe_str (fun _ _ => rfl)) pa_nil))) (pa_cons (pe_c C__law_pick hr (by decide) rfl (pa_cons (pv 0) (pa_cons (pe_dget (Room.u1 hr) (pv 3) pe_str (fun _ _ => rfl)) pa_nil))) pa_nil)) (by rfl))
      (pss_cons (ps_set (i := 8) nd rfl (Or.inl rfl) (pe_tup (pa_cons (pv 6) (pa_cons (pv 7) (pa_cons (pe_op op_sub (pe_c C__law_draw hr (by decide) rfl (pa_cons (pv 0) (pa_cons (pe_op op_add (pe_op op_mul pe_int (pv 4)) pe_int) pa_nil))) (pv 4)) pa_nil)))))
      (pss_one (ps_if (pt_cmpR (op_notInD (u65 hr)) (pv 8) (pe_dget (Room.u1 hr) (pv 3) pe_str (fun _ _ => rfl)) (by rfl)) (pss_one (ps_expr (pe_bm PySem.F.plainAttrs_list PySem.F.slot_list_append PySem.F.type_list_append mt_append (pe_dget (Room.u1 hr) (pv 3) pe_str (fun _ _ => rfl)) (pa_cons (pv 8) pa_nil)))) pss_nil)))))
      (C8.pss_cut (ps_while PassesOwn.never (pt_cmpR op_gt (pe_c C__law_period hr (by decide) rfl (pa_cons (pv 3) pa_nil)) pe_int (nomark _)) (pss_one (ps_expr (pe_bm0 PySem.F.plainAttrs_list PySem.F.slot_list_pop PySem.F.type_list_pop mt_pop (pe_dget (Room.u1 hr) (pv 3) pe_str (fun _ _ => rfl))))))
      (pss_one (ps_ret (pv 3))))))), ?_⟩
  refine fun p np => ?_
  have l0 := Le.new (o := .dK []) np
  have p0 := pn.le l0
  have npd : p ≠ d := ne_of_new' np pn.dict
  refine ⟨_, rfl, _, rfl, _, rfl, d, dl, _, n, rfl, p0, by omega, by omega, lg9 _ (by omega) (by omega), fun x0 H1 l1 p1 x00 x01 => ⟨_, _, rfl, rfl, ?_⟩⟩
  obtain ⟨m, em, m1⟩ : ∃ m : Nat, 1 + x0 = (m : Int) ∧ 1 ≤ m ∧ m ≤ N := ⟨(1 + x0).toNat, by omega, by omega, by omega⟩
  refine ⟨d, dl, _, m, by rw [← em]; rfl, p1, by omega, by omega, fun q r H2 l2 p2 nq hq gr rl1 rl2 => ?_⟩
  have rm := rl2 (by omega)
  refine ⟨Nat.zero_le _, fun u nu => ?_⟩
  have k3 := Le.new (o := .lst []) nu
  have ep : upd H p (.dK []) p = some (.dK []) := upd_self
  have ep2 := k3 _ _ (l2 _ _ npd (l1 _ _ npd ep))
  have npq : p ≠ q := fun e => by rw [← e] at nq; rw [l1 _ _ npd ep] at nq; cases nq
  have npu : p ≠ u := fun e => by rw [← e, l2 _ _ npd (l1 _ _ npd ep)] at nu; cases nu
  have nqu : q ≠ u := fun e => by
    have hq : H2 q = some (.lst (r.map V.str)) := hq
    rw [e, nu] at hq
    cases hq
  have nud : u ≠ d := fun e => by
    obtain ⟨kvs, h⟩ := p2.dict
    rw [← e, nu] at h
    cases h
  have nudl : dl ≠ u := fun e => by
    obtain ⟨_, _, _, _, h, _⟩ := p2
    rw [e, nu] at h
    cases h
  have nqd : q ≠ d := fun e => by
    obtain ⟨kvs, h⟩ := p2.dict
    have hq : H2 q = some (.lst (r.map V.str)) := hq
    rw [← e, hq] at h
    cases h
  have npdl : dl ≠ p := fun e => by
    obtain ⟨_, _, _, _, h, _⟩ := p1
    rw [e, l1 _ _ npd ep] at h
    cases h
  refine ⟨ep2, plainV q u, rfl, (show 2 ≤ 15 by decide), ?_⟩
  rw [show mergeK [] (plainV q u) = plainV q u from rfl]
  have hp3 : upd (upd H2 u (.lst [])) p (.dK (plainV q u)) p = some (.dK (plainV q u)) := upd_self
  have hq3 : upd (upd H2 u (.lst [])) p (.dK (plainV q u)) q = some (.lst (r.map V.str)) := by rw [upd_ne npq.symm]; exact k3 _ _ hq
  have hu3 : upd (upd H2 u (.lst [])) p (.dK (plainV q u)) u = some (.lst []) := by rw [upd_ne npu.symm]; exact upd_self
  have p3 : IsPen (upd (upd H2 u (.lst [])) p (.dK (plainV q u))) d dl (n + 101) := ((p2.le k3).lx (Le.refl.x.upd) npd.symm npdl).mono (by omega)
  have nHu : ∀ {o : HO}, H u ≠ some o := fun {o} h => by
    have := l2 _ _ nud (l1 _ _ nud (l0 _ _ h))
    rw [nu] at this
    cases this
  have lx3 : LeX d H (upd (upd H2 u (.lst [])) p (.dK (plainV q u))) := fun a o h1 h2 => by
    rw [upd_ne (fun e => by rw [e, np] at h2; cases h2)]
    exact k3 _ _ (l2 _ _ h1 (l1 _ _ h1 (l0 _ _ h2)))
  generalize upd (upd H2 u (.lst [])) p (.dK (plainV q u)) = H3 at hp3 hq3 hu3 p3 lx3 ⊢
  clear ep ep2 k3 p2 p1 p0 l2 l1 l0 nu hq
  refine ⟨_, rfl, d, dl, 4, _, rfl, p3, by omega, by decide, by decide, fun f0 H4 l4 p4 f00 f01 => ⟨_, _, rfl, rfl, ?_⟩⟩
  have hp4 := l4 _ _ npd hp3
  have hq4 := l4 _ _ nqd hq3
  have hu4 := l4 _ _ nud hu3
  have lx4 := lx3.tr l4
  let Inv : Nat → Hp → Prop := fun i H' => LeX d H H' ∧ IsPen H' d dl (n + 103 + 3 * (i : Nat)) ∧ H' p = some (.dK (plainV q u)) ∧ IsRow H' q r ∧ ∃ ws, WaysAt H' u ws ∧ ws.length ≤ i ∧ ws.Nodup ∧ ∀ e ∈ ws, e.1 ∈ r ∧ e.2.1 ∈ r ∧ -4 ≤ e.2.2 ∧ e.2.2 ≤ 4
  refine ⟨fun σ' H' => Inv W H' ∧ ∃ x5 x6 x7 x8, σ' = [some (.ref d), some (.int (N : Int)), some (.int (W : Int)), some (.ref p), some (.int (1 + f0)), x5, x6, x7, x8], ?_, ?_⟩
  · refine ⟨_, rfl, _, rfl, _, _, rfl, rfl, d, dl, _, _, rfl, p4, by omega, by omega, lg9 _ (by omega) (by omega), fun c0 H5 l5 p5 c00 c01 => ?_⟩
    refine ⟨_, rfl, by omega, by omega, ?_⟩
    have nrow : ∀ {H' : Hp}, LeX d H4 H' → H' p = some (.dK (plainV q u)) ∧ H' q = some (.lst (r.map V.str)) := fun l => ⟨l _ _ npd hp4, l _ _ nqd hq4⟩
    refine for_it walk_range (fun i σ' H' => Inv i H' ∧ ∃ x5 x6 x7 x8, σ' = [some (.ref d), some (.int (N : Int)), some (.int (W : Int)), some (.ref p), some (.int (1 + f0)), x5, x6, x7, x8]) ?_ (fun _ _ _ _ _ => trivial) ?_ ?_
    · exact ⟨⟨lx4.tr l5, p5.mono (by omega), l5 _ _ npd hp4, l5 _ _ nqd hq4, [], ⟨[], l5 _ _ nud hu4, .nil⟩, Nat.le_refl _, List.nodup_nil, fun e he => (by cases he)⟩, _, _, _, _, rfl⟩
    · clear lx4 hp4 hq4 hu4 p4 p5 l5 lx3 hp3 hq3 hu3 p3 l4 nrow
      rintro i v σ' Ha Hb hi ⟨⟨lx, pa, hp, hq, ws, hws, wl, wn, wg⟩, x5, x6, x7, x8, rfl⟩ ⟨rfl, rfl⟩
      have hiW : i < 7 := by omega
      have r0 : 0 < (r.map V.str).length := by rw [List.length_map]; omega
      have rN : (r.map V.str).length ≤ 1000000 := by rw [List.length_map]; omega
      refine ⟨_, rfl, _, rfl, p, _, rfl, plain_chains hp, d, dl, _, _, rfl, pa, by omega, .inr ⟨q, r.map V.str, rfl, hq, r0, rN, fun va H6 l6 p6 hva => ?_⟩⟩
      obtain ⟨a, haR, rfl⟩ := List.mem_map.mp hva
      refine ⟨_, rfl, _, rfl, p, _, rfl, plain_chains (l6 _ _ npd hp), d, dl, _, _, rfl, p6, by omega, .inr ⟨q, r.map V.str, rfl, l6 _ _ nqd hq, r0, rN, fun vb H7 l7 p7 hvb => ?_⟩⟩
      obtain ⟨b, hbR, rfl⟩ := List.mem_map.mp hvb
      refine ⟨_, _, rfl, ?_⟩
      refine ⟨_, rfl, _, rfl, _, rfl, _, rfl, _, _, rfl, rfl, ?_, _, _, rfl, rfl, d, dl, _, _, rfl, p7, by omega, by omega, lg9 _ (by omega) (by omega), fun y H8 l8 p8 y0 y1 => ?_⟩
      · exact .inl ⟨by decide, by decide⟩
      refine ⟨_, rfl, _, _, rfl, rfl, le_szl 3 (by decide), fun t nt => ?_⟩
      have k9 := Le.new (o := .tup [.str a, .str b, .int (y - (1 + f0))]) nt
      have L9 : LeX d Hb _ := ((l6.tr l7).tr l8).tr k9.x
      have et : upd H8 t (.tup [.str a, .str b, .int (y - (1 + f0))]) t = some (.tup [.str a, .str b, .int (y - (1 + f0))]) := upd_self
      have p9 := p8.le k9
      generalize upd H8 t (.tup [.str a, .str b, .int (y - (1 + f0))]) = H9 at k9 L9 et p9 ⊢
      have hp9 := L9 _ _ npd hp
      have hq9 := L9 _ _ nqd hq
      obtain ⟨us, hul, hus⟩ := hws
      have hul9 := L9 _ _ nud hul
      obtain ⟨kvs, edk⟩ := pa.dict
      have hus9 : All2 (WayAt H9) us ws := hus.imp fun v e ⟨tt, e1, h⟩ => ⟨tt, e1, L9 _ _ (fun z => by rw [z, edk] at h; cases h) h⟩
      have wat : WayAt H9 (.ref t) (a, b, y - (1 + f0)) := ⟨t, rfl, et⟩
      have okw : ∀ x ∈ r, PyData.strOk x = true := fun x hx => ((gr.2 x hx).1).ok
      refine ⟨_, rfl, _, rfl, p, _, rfl, plain_ways hp9, _, _, wat.dp, .lst (.of hul9) (dp_ways hus9), shaped_way ⟨okw a haR, okw b hbR⟩, shaped_ways fun x hx => ⟨okw _ (wg x hx).1, okw _ (wg x hx).2.1⟩, _, rfl, ?_⟩
      rw [any_ways]
      by_cases cm : (a, b, y - (1 + f0)) ∈ ws
      · rw [decide_eq_true cm]
        refine ite2 (fun c => absurd c (by decide)) fun _ => ?_
        exact ⟨⟨lx.tr L9, p9.mono (by omega), hp9, hq9, ws, ⟨us, hul9, hus9⟩, by omega, wn, wg⟩, _, _, _, _, rfl⟩
      rw [decide_eq_false cm]
      refine ite2 (fun _ => ?_) (fun c => absurd rfl c)
      have hulen := hus9.len
      refine ⟨_, rfl, p, _, rfl, plain_ways hp9, .inl ⟨rfl, _, .of hul9⟩, _, rfl, u, _, _, rfl, rfl, hul9, le_szl' (by omega), ?_⟩
      have lxu : LeX u H9 (upd H9 u (.lst (us ++ [.ref t]))) := Le.refl.x.upd
      have keep : ∀ {v : V} {x : Str × Str × Int}, WayAt H9 v x → WayAt (upd H9 u (.lst (us ++ [.ref t]))) v x := fun ⟨tt, e, h⟩ => ⟨tt, e, lxu _ _ (fun z => by rw [z, hul9] at h; cases h) h⟩
      refine ⟨⟨fun x o h1 h2 => ?_, (p9.lx lxu nud.symm nudl).mono (by omega), lxu _ _ npu hp9, lxu _ _ nqu hq9, ws ++ [(a, b, y - (1 + f0))], ⟨_, upd_self, (hus9.imp fun v x h => keep h).app (.cons (keep wat) .nil)⟩, by rw [List.length_append]; exact Nat.succ_le_succ wl, ?_, ?_⟩, _, _, _, _, rfl⟩
      · rw [upd_ne (fun z => by rw [z] at h2; exact nHu h2)]
        exact L9 _ _ h1 (lx _ _ h1 h2)
      · rw [List.nodup_append]
        exact ⟨wn, by simp, fun x hx z hz e => cm (by rw [List.mem_singleton.mp hz] at e; rw [← e]; exact hx)⟩
      · intro e he
        rcases List.mem_append.mp he with he | he
        · exact wg e he
        · rw [List.mem_singleton.mp he]
          exact ⟨haR, hbR, by show -4 ≤ y - (1 + f0); omega, by show y - (1 + f0) ≤ 4; omega⟩
    · rintro σ' H' ⟨⟨lx, pa, hp, hq, ws, hws, wl, wn, wg⟩, x5, x6, x7, x8, rfl⟩
      exact ⟨⟨lx, pa.mono (by omega), hp, hq, ws, hws, by omega, wn, wg⟩, _, _, _, _, rfl⟩
  rintro σ' H6 ⟨⟨lx, pa, hp, hq, ws, hws, wl, wn, wg⟩, x5, x6, x7, x8, rfl⟩
  refine ⟨fun σ' H' => LeX d H H' ∧ IsPen H' d dl (n + 103 + 3 * (W : Nat)) ∧ H' p = some (.dK (plainV q u)) ∧ IsRow H' q r ∧ (∃ ws Pd, WaysAt H' u ws ∧ ws.length ≤ W ∧ ws.Nodup ∧ (∀ e ∈ ws, e.1 ∈ r ∧ e.2.1 ∈ r ∧ -4 ≤ e.2.2 ∧ e.2.2 ≤ 4) ∧ 0 < Pd ∧ Pd ≤ 60 ∧ ∀ x ∈ ringsL ws, x ≠ 0 → Pd % x = 0) ∧ σ' = [some (.ref d), some (.int (N : Int)), some (.int (W : Int)), some (.ref p), some (.int (1 + f0)), x5, x6, x7, x8], ?_, ?_⟩
  · refine ⟨fun m σ' H' => LeX d H H' ∧ IsPen H' d dl (n + 103 + 3 * (W : Nat)) ∧ H' p = some (.dK (plainV q u)) ∧ IsRow H' q r ∧ (∃ ws, WaysAt H' u ws ∧ m = ws.length ∧ ws.length ≤ W ∧ ws.Nodup ∧ (∀ e ∈ ws, e.1 ∈ r ∧ e.2.1 ∈ r ∧ -4 ≤ e.2.2 ∧ e.2.2 ≤ 4)) ∧ σ' = [some (.ref d), some (.int (N : Int)), some (.int (W : Int)), some (.ref p), some (.int (1 + f0)), x5, x6, x7, x8], ⟨ws.length, lx, pa, hp, hq, ⟨ws, hws, rfl, wl, wn, wg⟩, rfl⟩, ?_⟩
    clear lx pa hp hq hws wl wn wg ws
    rintro m σ' Ha ⟨lx, pa, hp, hq, ⟨ws, hws, rfl, wl, wn, wg⟩, rfl⟩
    refine ⟨_, rfl, p, r, ws, rfl, ⟨q, u, hp, hq, hws⟩, by omega, fun Pd Hb lb P0 Pd' P1 => ?_⟩
    refine ⟨_, _, rfl, rfl, _, rfl, ite2 (fun c => ?_) (fun c => ?_)⟩
    rotate_left
    · have c : ¬ 60 < Pd := fun h => c (decide_eq_true h)
      exact ⟨lx.tr lb.x, pa.le lb, lb _ _ hp, lb _ _ hq, ⟨ws, Pd, hws.le lb, wl, wn, wg, P0, by omega, Pd'⟩, rfl⟩
    have c : 60 < Pd := of_decide_eq_true c
    have w0 : ws ≠ [] := fun e => by rw [P1 e] at c; omega
    have wlen := List.length_pos_iff.mpr w0
    obtain ⟨us, hul, hus⟩ := hws
    have hulb := lb _ _ hul
    have husb := hus.imp fun v e h => h.le lb
    have hulen := husb.len
    refine ⟨fun σ2 H2 => LeX d H H2 ∧ IsPen H2 d dl (n + 103 + 3 * (W : Nat)) ∧ H2 p = some (.dK (plainV q u)) ∧ IsRow H2 q r ∧ WaysAt H2 u ws.dropLast ∧ σ2 = [some (.ref d), some (.int (N : Int)), some (.int (W : Int)), some (.ref p), some (.int (1 + f0)), x5, x6, x7, x8], ?_, ?_⟩
    · rintro σ2 H2 ⟨g1, g2, g3, g4, g5, rfl⟩
      refine ⟨ws.dropLast.length, by rw [List.length_dropLast]; omega, g1, g2, g3, g4, ⟨ws.dropLast, g5, rfl, by rw [List.length_dropLast]; omega, wn.sublist (List.dropLast_sublist ws), fun e he => wg e ((List.dropLast_sublist ws).subset he)⟩, rfl⟩
    have lxu : LeX u Hb (upd Hb u (.lst us.dropLast)) := Le.refl.x.upd
    refine ⟨_, rfl, p, _, rfl, plain_ways (lb _ _ hp), .inl ⟨rfl, _, .of hulb⟩, u, us, us[us.length - 1]'(by omega), rfl, rfl, hulb, List.getElem?_eq_getElem _, ?_⟩
    refine ⟨fun x o h1 h2 => ?_, (pa.le lb).lx lxu nud.symm nudl, lxu _ _ npu (lb _ _ hp), lxu _ _ nqu (lb _ _ hq), ⟨us.dropLast, upd_self, ?_⟩, rfl⟩
    · rw [upd_ne (fun z => by rw [z] at h2; exact nHu h2)]
      exact lb _ _ (lx _ _ h1 h2)
    · have keep : All2 (WayAt (upd Hb u (.lst us.dropLast))) us ws := husb.imp fun v x ⟨tt, e, h⟩ => ⟨tt, e, lxu _ _ (fun z => by rw [z, hulb] at h; cases h) h⟩
      exact all2_drop keep
  rintro σ' Ha ⟨lx, pa, hp, hq, ⟨ws, Pd, hws, wl, wn, wg, P0, P1, Pd'⟩, rfl⟩
  have o : OkMap r ws := ⟨fun e => by rw [e] at rm; simp at rm; omega, by omega, gr.1, fun z hz => ⟨(gr.2 z hz).1, (gr.2 z hz).2.2, (gr.2 z hz).2.1⟩, by omega, wn, fun w hw => by have := wg w hw; exact ⟨this.1, this.2.1, by omega, by omega⟩⟩
  exact ⟨_, rfl, qq p r ws Pd Ha lx (pa.mono (by omega)) np ⟨q, u, hp, hq, hws⟩ ⟨o, by omega, wl, fun e he => (wg e he).2.2, P0, P1, Pd'⟩⟩
def sp_lmtext : Sp := fun vs H Q _ => ∃ (p : Addr) (r : Row) (ws : Ways), vs = [.ref p] ∧ PlainAt H p r ws ∧ OkMap r ws ∧ ∀ H', Le H H' → Q (.str (mapS r ws)) H'
theorem c_lmtext (T : Txt K mg) (F : DefOf K mg "_law_map_text" s__law_map_text P__law_map_text) : Cal P w K mg base 1 "_law_map_text" sp_lmtext [] := by
  obtain ⟨f, fd, F, B⟩ := F
  refine cal0 F B .nil sc__law_map_text (fun vs H Q E h => by obtain ⟨_, _, _, rfl, _⟩ := h; rfl) (fun cdv A outer s H vs Q E hr h => ?_)
  obtain ⟨p, r, ws, rfl, hp, o, qq⟩ := h
  have nd := sc__law_map_text.nd
  refine ⟨_, (pss_cons (ps_setLc (i := 1) (own := [("_law_name", 2)]) (g := gName 2) (by rfl) nd rfl rfl (sw_true rfl rfl rfl (by decide +kernel)) (pi_list (pe_dget (Room.u1 hr) (pv 0) pe_str (fun _ _ => rfl))) (blkOk_by (own := [("_law_name", 2)]) (N := N__law_map_text) (sc := C8.fnScope s__law_map_text) (by decide +kernel)) (fun _ _ _ _ _ => pg_name (i := 2) nd rfl (Or.inl rfl)) (fun _ _ _ _ _ => pts_nil) (fun _ _ _ _ _ => (pe_op op_add_str pe_str (pv 2))))
      (pss_one (ps_ret (pe_join pe_str (pe_op op_cat (pv 1) (pe_lc (own := [("_law_one", 3), ("_law_two", 4), ("_law_by", 5)]) (g := (gTup K 3 (gCons (gName 3) (gCons (gName 4) (gCons (gName 5) gNil))))) (by rfl) nd (pi_list (pe_dget (Room.u1 hr) (pv 0) pe_str (fun _ _ => rfl))) (blkOk_by (own := [("_law_one", 3), ("_law_two", 4), ("_law_by", 5)]) (N := N__law_map_text) (sc := C8.fnScope s__law_map_text) (by decide +kernel)) (fun _ _ _ _ _ => (pg_tupK (K := K) rfl rfl (pgs_cons (pg_name (i := 3) nd rfl (Or.inl rfl) (Or.inr rfl)) (pgs_cons (pg_name (i := 4) nd rfl (Or.inl rfl) (Or.inr rfl)) (pgs_cons (pg_name (i := 5) nd rfl (Or.inl rfl) (Or.inr rfl)) pgs_nil))))) (fun _ _ _ _ _ => pts_nil) (fun _ _ _ _ _ => (pe_op op_add_str (pe_op op_add_str (pe_op op_add_str (pe_op op_add_str (pe_op op_add_str pe_str (pv 3)) pe_str) (pv 4)) pe_str) (pe_callTy call_str_int (by rfl) T.b_str (by decide +kernel) (pa_cons (pv 5) pa_nil)))))))))), ?_⟩
  obtain ⟨q, u, hp, hq, us, hul, hus⟩ := hp
  have h6 := o.r6
  have h12 := o.w12
  refine ⟨_, rfl, p, _, rfl, plain_chains hp, q, rfl, ⟨_, .of hq⟩, fun D1 nD1 => ?_⟩
  refine lc_pure (walk_list (xs := r.map V.str)) nD1 (by rw [List.length_map]; exact le_szl _ (by omega)) (fun H le => .of (le _ _ hq)) yat_le (fun k => (r[k]?).map fun z => V.str (chainS z)) ?_ ?_
  · rintro k x Hx Hy hk lx ⟨rfl, hx⟩ N hN
    rw [List.getElem?_map, Option.map_eq_some_iff] at hx
    obtain ⟨z, hz, rfl⟩ := hx
    have hN := hN Hy .refl
    simp only [hz, Option.map_some] at hN
    have := (o.nm z (List.mem_of_getElem? hz)).1.2
    refine ⟨rfl, ?_⟩
    have ec : ("chain " : Str).length = 6 := by decide +kernel
    exact ⟨_, rfl, _, _, rfl, rfl, by rw [ec]; exact le_szl _ (by omega), hN⟩
  intro H1 l1 e1
  rw [List.length_map, fm_at r fun z => V.str (chainS z)] at e1
  have hul1 := l1 _ _ hul
  have hlen := hus.len
  refine ⟨⟨_, rfl⟩, _, rfl, _, rfl, p, _, rfl, plain_ways (l1 _ _ hp), u, rfl, ⟨_, .of hul1⟩, fun D2 nD2 => ?_⟩
  refine lc_pure (walk_list (xs := us)) nD2 (le_szl _ (by omega)) (fun H le => .of (le _ _ hul1)) yat_le (fun k => (ws[k]?).map fun e => V.str (wayS e)) ?_ ?_
  · rintro k x Hx Hy hk lx ⟨rfl, hx⟩ N hN
    obtain ⟨e, he, t, rfl, ht⟩ := hus.get hx
    have hN := hN Hy .refl
    simp only [he, Option.map_some] at hN
    have hw := o.wi e (List.mem_of_getElem? he)
    have n1 := (o.nm _ hw.1).1.2
    have n2 := (o.nm _ hw.2.1).1.2
    have n3 : (numS e.2.2).length ≤ 3 := numS_len (k := 2) (by decide) (by omega)
    have e1 : ("from " : Str).length = 5 := by decide +kernel
    have e2 : (" to " : Str).length = 4 := by decide +kernel
    have e3 : (" by " : Str).length = 4 := by decide +kernel
    refine ⟨t, _, rfl, .of (lx _ _ (l1 _ _ ht)), rfl, _, _, rfl, _, _, rfl, _, _, rfl, rfl, ⟨rfl, ?_⟩⟩
    refine ⟨_, rfl, _, _, rfl, rfl, by rw [e1]; exact le_szl _ (by omega), ?_⟩
    refine ⟨_, _, rfl, rfl, by rw [app_len, e1, e2]; exact le_szl _ (by omega), ?_⟩
    refine ⟨_, rfl, _, _, rfl, rfl, by rw [app_len, app_len, e1, e2]; exact le_szl _ (by omega), ?_⟩
    refine ⟨_, _, rfl, rfl, by rw [app_len, app_len, app_len, e1, e2, e3]; exact le_szl _ (by omega), ?_⟩
    exact ⟨_, rfl, _, rfl, Nat.lt_of_le_of_lt (Nat.log2_le_self _) (by omega), _, _, rfl, rfl, by
      show ("from " ++ e.1 ++ " to " ++ e.2.1 ++ " by " : Str).length + (numS e.2.2).length ≤ sizeLine
      rw [app_len, app_len, app_len, app_len, e1, e2, e3]
      exact le_szl _ (by omega), hN⟩
  intro H2 l2 e4
  rw [hlen, fm_at ws fun e => V.str (wayS e)] at e4
  have ol := o.len
  refine ⟨D1, D2, _, _, rfl, rfl, l2 _ _ e1, e4, ?_, fun L nL => ?_⟩
  · rw [List.length_map, List.length_map]
    exact le_szl _ (by omega)
  have eL : upd H2 L (.lst (r.map (fun z => V.str (chainS z)) ++ ws.map fun e => V.str (wayS e))) L = some (.lst ((linesS r ws).map V.str)) := by
    rw [upd_self]
    unfold linesS
    rw [List.map_append, List.map_map, List.map_map]
    rfl
  have e6 : ("\n" : Str).length = 1 := by decide +kernel
  exact ⟨_, L, linesS r ws, rfl, rfl, .inl (.of eL), by rw [e6]; omega, qq _ ((l1.trans l2).trans (Le.new nL))⟩
end
end Od
end
section
set_option Elab.async false
set_option linter.all false
set_option maxRecDepth 100000
set_option maxHeartbeats 2000000
set_option autoImplicit false
/-! methods with a star parameter -/
namespace Od
open PySem PySem.Spec PyProof.Rows L2
def spV (n : Nat) (sp : Sp) : Sp := fun vs H Q E => ∃ v rest, vs = v :: rest ∧ rest.length ≤ n ∧ ∀ p, H p = none → sp [v, .ref p] (upd H p (.tup rest)) Q E
/-- a method of a class; its text has one parameter and a star parameter -/
def MetOfV (K : PySem.W.Frag) (C : Addr) (m qual : Str) (st : Stmt) (pa pv : Str) : Prop := ∃ f fd, Meth K C m f ∧ C8.Fun K m qual st f fd ∧ ∀ (u : Value) (rest : List Value), rest.length ≤ 2 → bindArgs fd ⟨u :: rest, []⟩ = (newTuple rest >>= fun t => pure [(pa, u), (pv, t)])
structure MetR (P : Program) (w : World) (K : PySem.W.Frag) (mg : Str → Option Value) (base : Heap) (k : Nat) (C : Addr) (m : Str) (sp : Sp) : Prop where
  ex : ∃ f : Addr, Cls K C ∧ Meth K C m f ∧ FnR P w K mg base C8.CX0 k f (spV 2 sp)
section
variable {P : Program} {w : World} {K : PySem.W.Frag} {mg : Str → Option Value} {base : Heap}
theorem metR0 {m qual : Str} {C f : Addr} {st : Stmt} {fd : FuncData} {N : List Str} {pa pv : Str} {k : Nat} {sp : Sp} (c : Cls K C) (me : Meth K C m f) (F : C8.Fun K m qual st f fd)
    (hb : ∀ (u : Value) (rest : List Value), rest.length ≤ 2 → bindArgs fd ⟨u :: rest, []⟩ = (newTuple rest >>= fun t => pure [(pa, u), (pv, t)])) (S : FnScope N [pa, pv] (C8.fnScope st))
    (hbody : ∀ (cdv : Value) (A : Around) (outer : List Env) (s : Shared) (H : Hp) (vs : List V) (Q : VK) (E : XK), Room k (A.deeper (envOfC qual (C8.fnScope st) s.heap.objs.size f cdv)) → sp vs H Q E →
      ∃ t, PSs (cxOf C8.CX0 P w K mg base N qual (C8.fnScope st) f cdv A outer s H E).nox (C8.fnBody st) t ∧ t { nx := fun _ H' => Q .non H', rt := Q } (start N vs) H) : MetR P w K mg base (k + 1) C m sp := by
  obtain ⟨oc, od, dV, kV, doc, pm, an, cdv, ct, osl, rfl, lk, hcd⟩ := F.ex
  refine ⟨f, c, me, fn_ofV lk hcd S (le_szl 2 (by decide)) hb (fun _ _ _ _ _ _ _ _ _ _ _ _ z => z.elim) fun A outer s H vs Q E hr hsp => ?_⟩
  obtain ⟨t, h, q⟩ := hbody cdv A outer s H vs Q E hr hsp
  exact ⟨t, h.nox, q⟩
end
section
variable {X : Cx} {k j : Nat} {C : Addr} {m : Str} {sp : Sp} {pos apos : Pos} {e o : Expr} {es : List Expr} {ta : TE} {t : TA}
theorem pe_mtR {pl : Sem Bool} (c : MetR X.prog X.w X.K X.mg X.base k C m sp) (hr : Room j X.A) (hk : k ≤ j) (he : PE X o ta) (ha : PA X (e :: es) t)
    (hst : starEach (e :: es) X.env = (false, eval e X.env) :: starEach es X.env := by rfl) (hpl : (backTo pos (starEach es X.env)).any (·.1) = false := by rfl)
    (ht : eval (.Call (.Attribute o m apos) (e :: es) [] pos) X.env = (do
      let ov ← eval o X.env
      standAt apos.atName
      let (f, first) ← holding [ov] (getMethod ov m pl)
      callWith pos f first (backTo pos (starEach (e :: es) X.env)) (backToKw pos (keywordEach [] X.env))) := by rfl) :
    PE X (.Call (.Attribute o m apos) (e :: es) [] pos) (tMethR C m (spV 2 sp) C8.E0 ta t) := by
  obtain ⟨f, hc, hm, F⟩ := c.ex
  exact pe_methR (pl := pl) he hc hm F (hr.mono hk) C8.pass0 ha hst hpl ht
end
end Od
end
section
set_option Elab.async false
set_option linter.all false
set_option maxRecDepth 100000
set_option maxHeartbeats 2000000
set_option autoImplicit false
/-! the days between two chains of a map -/
namespace Od
open PySem PySem.Spec PyProof.Rows L2 C8 Day Wk
abbrev s_Map_need : Stmt := inClass (top 45) 1
abbrev N_Map_need : List Str := ["self", "names", "name"]
abbrev P_Map_need : List Str := ["self", "names"]
theorem sc_Map_need : FnScope N_Map_need P_Map_need (C8.fnScope s_Map_need) := fnScope_by (by decide +kernel)
abbrev s_Map_reach : Stmt := inClass (top 45) 2
abbrev N_Map_reach : List Str := ["self", "a", "b"]
abbrev P_Map_reach : List Str := ["self", "a", "b"]
theorem sc_Map_reach : FnScope N_Map_reach P_Map_reach (C8.fnScope s_Map_reach) := fnScope_by (by decide +kernel)
section
variable {P : Program} {w : World} {K : PySem.W.Frag} {mg : Str → Option Value} {base : Heap}
def sp_need (C X : Addr) : Sp := fun vs H Q _ => ∃ (p t : Addr) (r : Row) (ws : Ways) (zs : List Str), vs = [.ref p, .ref t] ∧ IsMap C X H p r ws ∧ H t = some (.tup (zs.map V.str)) ∧ (∀ z ∈ zs, z ∈ r) ∧ zs.length ≤ 2 ∧ Q .non H
theorem q_need {C X : Addr} (T : Txt K mg) (DM : DMC K mg X) (M : MetOfV K X "need" "Map.need" s_Map_need "self" "names") : MetR P w K mg base 1 X "need" (sp_need C X) := by
  obtain ⟨g_, fd, M, F, B⟩ := M
  refine metR0 DM.cl M F B sc_Map_need (fun cdv A outer s H vs Q E hr h => ?_)
  obtain ⟨p, t, r, ws, zs, rfl, hm, ht, hz, hl, qq⟩ := h
  have nd := sc_Map_need.nd
  refine ⟨_, (pss_one (ps_for PassesOwn.never rfl (pi_tup (pv 1)) (pg_name (i := 2) nd rfl (Or.inl rfl)) (pss_one (ps_if (pt_cmpR op_notIn_seq (pv 2) (pe_fld (pv 0) rfl) (by rfl)) (pss_one ps_never) pss_nil)))), ?_⟩
  obtain ⟨o, dx, pc, pw, dd, hm1, hpc, _⟩ := id hm
  have nm := DM.cl
  refine ⟨_, rfl, t, rfl, ⟨_, .of ht⟩, ?_⟩
  refine for_tup (xs := zs.map V.str) (fun j σ' H' => H' = H ∧ ∃ x2, σ' = [some (.ref p), some (.ref t), x2]) ⟨rfl, _, rfl⟩ (fun _ _ _ _ h => by rw [h.1]; exact .of ht) ?_ (fun σ H' h => by rw [h.1]; exact qq)
  rintro j x σ' H' hx ⟨rfl, x2, rfl⟩
  rw [List.getElem?_map, Option.map_eq_some_iff] at hx
  obtain ⟨z, hzj, rfl⟩ := hx
  have hzr := hz z (List.mem_of_getElem? hzj)
  refine ⟨_, rfl, _, rfl, _, _, _, _, _, rfl, hm1, DM.cl, DM.n_chains, rfl, ?_⟩
  refine ⟨pc, _, rfl, .inr (.of hpc), rfl, flat_row _, _, rfl, ?_⟩
  rw [inV_str, decide_eq_true hzr]
  refine ite2 (fun c => absurd c (by decide)) (fun _ => ?_)
  exact ⟨rfl, _, rfl⟩
def sp_reach (C X : Addr) : Sp := fun vs H Q _ => ∃ (p : Addr) (a b : Str) (r : Row) (ws : Ways), vs = [.ref p, .str a, .str b] ∧ IsMap C X H p r ws ∧ a ∈ r ∧ b ∈ r ∧ ∀ q H', Le H H' → IsDay C H' q (fR ws a b) → Q (.ref q) H'
theorem q_reach {C X : Addr} (T : Txt K mg) (DM : DMC K mg X) (M : MetOf K X "reach" "Map.reach" s_Map_reach P_Map_reach) (Q_Map_need : MetR P w K mg base 1 X "need" (sp_need C X)) : Met P w K mg base 2 X "reach" (sp_reach C X) [] := by
  obtain ⟨g_, fd, M, F, B⟩ := M
  refine met0 DM.cl M F B sc_Map_reach (fun vs H Q E h => by obtain ⟨_, _, _, _, _, rfl, _⟩ := h; rfl) (fun cdv A outer s H vs Q E hr h => ?_)
  obtain ⟨p, a, b, r, ws, rfl, hm, ha, hb, qq⟩ := h
  have nd := sc_Map_reach.nd
  refine ⟨_, (pss_cons (ps_expr (pe_mtR Q_Map_need hr (by decide) (pv 0) (pa_cons (pv 1) (pa_cons (pv 2) pa_nil))))
      (pss_one (ps_ret (pe_dget (Room.u1 hr) (pe_fld (pv 0) rfl) (pe_tup (pa_cons (pv 1) (pa_cons (pv 2) pa_nil))) (fun _ _ => rfl))))), ?_⟩
  obtain ⟨o, dx, pc, pw, dd, hm1, hpc, hpw, kvs, hdd, ht⟩ := id hm
  refine ⟨_, rfl, p, dx, _, rfl, hm1, by rfl, _, rfl, _, rfl, .ref p, [.str a, .str b], rfl, Nat.le_refl 2, fun t nt => ?_⟩
  have l1 := Le.new (o := .tup [.str a, .str b]) nt
  refine ⟨p, t, r, ws, [a, b], rfl, hm.le l1, upd_self, fun z hz => ?_, Nat.le_refl 2, ?_⟩
  · simp only [List.mem_cons, List.not_mem_nil, or_false] at hz
    rcases hz with rfl | rfl
    · exact ha
    · exact hb
  refine ⟨_, rfl, _, _, _, _, _, rfl, l1 _ _ hm1, DM.cl, DM.n_sums, rfl, _, rfl, _, rfl, le_szl 2 (by decide), fun t2 nt2 => ?_⟩
  have l2 := Le.new (o := .tup [.str a, .str b]) nt2
  obtain ⟨q, e1, dq⟩ := ht a b ⟨ha, hb⟩
  exact ⟨dd, _, rfl, dget2 ((l1.trans l2) _ _ hdd) upd_self e1, qq q _ (l1.trans l2) (dq.le (l1.trans l2))⟩
end
end Od
end
section
set_option Elab.async false
set_option linter.all false
set_option maxRecDepth 100000
set_option autoImplicit false
/-! laws of reaches: walks put together, turned, renamed -/
namespace Wk
open Day Od
section
variable {α : Type} [DecidableEq α] {E : List (α × α × Int)}
theorem Wr.zero {a : α} : Wr E a a 0 := ⟨[], rfl, rfl⟩
theorem Wr.app {a m b : α} {x y : Int} (h : Wr E a m x) (q : Wr E m b y) : Wr E a b (x + y) := by
  obtain ⟨u, h1, rfl⟩ := h
  obtain ⟨v, h2, rfl⟩ := q
  exact ⟨u ++ v, Wk.app.mpr ⟨m, h1, h2⟩, tot_app u v⟩
theorem Wr.mono {E' : List (α × α × Int)} (i : ∀ e ∈ E, e ∈ E') {a b : α} {n : Int} (h : Wr E a b n) : Wr E' a b n := by
  obtain ⟨u, h1, h2⟩ := h
  exact ⟨u, h1.mono i, h2⟩
theorem Wr.first {a b : α} {n : Int} : Wr E a b n ↔ (a = b ∧ n = 0) ∨ ∃ e ∈ E, e.1 = a ∧ Wr E e.2.1 b (n - e.2.2) := by
  constructor
  · rintro ⟨es, h1, rfl⟩
    cases es with
    | nil => exact .inl ⟨h1, rfl⟩
    | cons e es => exact .inr ⟨e, h1.1, h1.2.1, es, h1.2.2, by rw [tot_cons]; omega⟩
  · rintro (⟨rfl, rfl⟩ | ⟨e, he, rfl, es, h1, h2⟩)
    · exact .zero
    · exact ⟨e :: es, ⟨he, rfl, h1⟩, by rw [tot_cons]; omega⟩
/-! ### turned round -/
def sw (e : α × α × Int) : α × α × Int := (e.2.1, e.1, e.2.2)
theorem sw_sw (e : α × α × Int) : sw (sw e) = e := rfl
theorem map_sw_sw (l : List (α × α × Int)) : (l.map Wk.sw).map Wk.sw = l := by
  rw [List.map_map]
  have : (Wk.sw ∘ Wk.sw : α × α × Int → α × α × Int) = id := funext fun e => sw_sw e
  rw [this, List.map_id]
theorem IsW.sw : ∀ {a b : α} {es : List (α × α × Int)}, IsW E a es b → IsW (E.map Wk.sw) b (es.reverse.map Wk.sw) a
  | a, b, [], h => Eq.symm h
  | a, b, e :: es, h => by
    rw [List.reverse_cons, List.map_append]
    exact Wk.app.mpr ⟨e.2.1, IsW.sw h.2.2, List.mem_map.mpr ⟨e, h.1, rfl⟩, rfl, h.2.1⟩
theorem tot_sw : ∀ es : List (α × α × Int), tot (es.reverse.map Wk.sw) = tot es
  | [] => rfl
  | e :: es => by
    rw [List.reverse_cons, List.map_append, tot_app, tot_sw es, tot_cons]
    show tot es + (e.2.2 + 0) = _
    omega
theorem Wr.sw {a b : α} {n : Int} (h : Wr E a b n) : Wr (E.map Wk.sw) b a n := by
  obtain ⟨es, h1, rfl⟩ := h
  exact ⟨_, h1.sw, tot_sw es⟩
theorem Wr.sw_iff {a b : α} {n : Int} : Wr (E.map Wk.sw) b a n ↔ Wr E a b n :=
  ⟨fun h => by have := h.sw; rwa [map_sw_sw] at this, fun h => h.sw⟩
theorem srcs_tgts : ∀ {a b : α} {es : List (α × α × Int)}, IsW E a es b → srcs es ++ [b] = a :: tgts es
  | a, b, [], h => by cases h; rfl
  | a, b, e :: es, h => by
    have := srcs_tgts h.2.2
    show e.1 :: (srcs es ++ [b]) = a :: e.2.1 :: tgts es
    rw [this, h.2.1]
theorem srcs_sw (r : List (α × α × Int)) : srcs (r.reverse.map Wk.sw) = (tgts r).reverse := by
  unfold srcs tgts
  rw [List.map_map, List.map_reverse]
  rfl
theorem Gr.sw {V : List α} {N : Nat} {M P : Int} (g : Gr E V N M P) : Gr (E.map Wk.sw) V N M P := by
  refine ⟨fun e he => ?_, fun e he => ?_, g.n1, g.m0, fun e he => ?_, g.p0, g.pd, fun y r q h0 => ?_⟩
  · obtain ⟨f, hf, rfl⟩ := List.mem_map.mp he
    exact g.tgt f hf
  · obtain ⟨f, hf, rfl⟩ := List.mem_map.mp he
    exact g.src f hf
  · obtain ⟨f, hf, rfl⟩ := List.mem_map.mp he
    exact g.m1 f hf
  · have hp : (srcs r).Perm (tgts r) := by
      have h1 := srcs_tgts q.w
      have h2 : (srcs r ++ [y]).Perm (y :: srcs r) := List.perm_append_comm
      rw [h1] at h2
      exact (List.Perm.cons_inv h2).symm
    have q2 : Ring E y (r.reverse.map Wk.sw) := ⟨by have := q.w.sw; rwa [map_sw_sw] at this, fun z => q.ne (List.reverse_eq_nil_iff.mp (List.map_eq_nil_iff.mp z)), by
      rw [srcs_sw]
      exact List.pairwise_reverse.mpr (((hp.nodup_iff).mp q.nd).imp fun h e => h e.symm)⟩
    have := g.rg y _ q2 (by rw [tot_sw]; exact h0)
    rwa [tot_sw] at this
/-! ### renamed -/
def rn (f : α → α) (e : α × α × Int) : α × α × Int := (f e.1, f e.2.1, e.2.2)
theorem IsW.rn (f : α → α) : ∀ {a b : α} {es : List (α × α × Int)}, IsW E a es b → IsW (E.map (Wk.rn f)) (f a) (es.map (Wk.rn f)) (f b)
  | a, b, [], h => by cases h; exact rfl
  | a, b, e :: es, h => ⟨List.mem_map.mpr ⟨e, h.1, rfl⟩, by show f e.1 = f a; rw [h.2.1], IsW.rn f h.2.2⟩
theorem tot_rn (f : α → α) : ∀ es : List (α × α × Int), tot (es.map (Wk.rn f)) = tot es
  | [] => rfl
  | e :: es => by
    rw [List.map_cons, tot_cons, tot_cons, tot_rn f es]
    rfl
theorem Wr.rn (f : α → α) {a b : α} {n : Int} (h : Wr E a b n) : Wr (E.map (Wk.rn f)) (f a) (f b) n := by
  obtain ⟨es, h1, rfl⟩ := h
  exact ⟨_, h1.rn f, tot_rn f es⟩
theorem map_rn_rn {V : List α} {f g : α → α} (hs : ∀ e ∈ E, e.1 ∈ V) (ht : ∀ e ∈ E, e.2.1 ∈ V) (h : ∀ x ∈ V, g (f x) = x) : (E.map (Wk.rn f)).map (Wk.rn g) = E := by
  rw [List.map_map]
  conv => rhs; rw [← List.map_id E]
  refine List.map_congr_left fun e he => ?_
  show (g (f e.1), g (f e.2.1), e.2.2) = e
  rw [h _ (hs e he), h _ (ht e he)]
theorem Wr.rn_iff {V : List α} {f g : α → α} (hs : ∀ e ∈ E, e.1 ∈ V) (ht : ∀ e ∈ E, e.2.1 ∈ V) (h : ∀ x ∈ V, g (f x) = x) {a b : α} (ha : a ∈ V) (hb : b ∈ V) {n : Int} : Wr (E.map (Wk.rn f)) (f a) (f b) n ↔ Wr E a b n := by
  refine ⟨fun q => ?_, fun q => q.rn f⟩
  have := q.rn g
  rwa [map_rn_rn hs ht h, h a ha, h b hb] at this
theorem Gr.rn {V : List α} {N : Nat} {M P : Int} (g : Gr E V N M P) {f k : α → α} (h : ∀ x ∈ V, k (f x) = x) : Gr (E.map (Wk.rn f)) (V.map f) N M P := by
  refine ⟨fun e he => ?_, fun e he => ?_, by rw [List.length_map]; exact g.n1, g.m0, fun e he => ?_, g.p0, g.pd, fun y r q h0 => ?_⟩
  · obtain ⟨x, hx, rfl⟩ := List.mem_map.mp he
    exact List.mem_map.mpr ⟨_, g.src x hx, rfl⟩
  · obtain ⟨x, hx, rfl⟩ := List.mem_map.mp he
    exact List.mem_map.mpr ⟨_, g.tgt x hx, rfl⟩
  · obtain ⟨x, hx, rfl⟩ := List.mem_map.mp he
    exact g.m1 x hx
  · have hin : ∀ x ∈ srcs r, ∃ z ∈ V, f z = x := fun x hx => by
      obtain ⟨e, he, rfl⟩ := List.mem_map.mp hx
      obtain ⟨d, hd, rfl⟩ := List.mem_map.mp (mem_E q.w e he)
      exact ⟨d.1, g.src d hd, rfl⟩
    have es : srcs (r.map (Wk.rn k)) = (srcs r).map k := by
      unfold srcs
      rw [List.map_map, List.map_map]
      rfl
    have q2 : Ring E (k y) (r.map (Wk.rn k)) := ⟨by have := q.w.rn k; rwa [map_rn_rn g.src g.tgt h] at this, fun z => q.ne (List.map_eq_nil_iff.mp z), by
      rw [es]
      show List.Pairwise _ _
      rw [List.pairwise_map]
      refine List.Pairwise.imp_of_mem (fun {x z} hx hz hne e => hne ?_) q.nd
      obtain ⟨x', hx', rfl⟩ := hin x hx
      obtain ⟨z', hz', rfl⟩ := hin z hz
      rw [h _ hx', h _ hz'] at e
      rw [e]⟩
    have := g.rg _ _ q2 (by rw [tot_rn]; exact h0)
    rwa [tot_rn] at this
end
end Wk
namespace Od
open PySem Day Wk
theorem good_gr {ws : Ways} {V : List Str} {P : Int} (g : Gr ws V 4 4 P) (p1 : P ≤ 60) : Good ws P 253 84 := by
  have p0 := g.p0
  exact Good.of g (by decide) (by decide) (by decide) (by decide) (by decide) (by decide) (by omega) (by omega) (by decide) (by decide) (by omega)
theorem star_R {ws : Ways} {a : Str} {n : Int} : Star (fun k => fR ws a a k = true) n ↔ fR ws a a n = true := by
  constructor
  · intro h
    induction h with
    | zero => exact fR_iff.mpr Wr.zero
    | add h1 h2 ih => exact fR_iff.mpr ((fR_iff.mp ih).app (fR_iff.mp h2))
  · exact fun h => Star.one h
theorem fR_app {ws : Ways} {a b c : Str} {x y : Int} (h : fR ws a b x = true) (k : fR ws b c y = true) : fR ws a c (x + y) = true := fR_iff.mpr ((fR_iff.mp h).app (fR_iff.mp k))
theorem fR_first {ws : Ways} {a b : Str} {n : Int} : fR ws a b n = true ↔ (a = b ∧ n = 0) ∨ ∃ e ∈ ws, e.1 = a ∧ fR ws e.2.1 b (n - e.2.2) = true := by
  rw [fR_iff, Wr.first]
  simp only [fR_iff]
theorem fR_sub {ws ws' : Ways} (i : ∀ e ∈ ws', e ∈ ws) {a b : Str} {n : Int} (h : fR ws' a b n = true) : fR ws a b n = true := fR_iff.mpr ((fR_iff.mp h).mono i)
theorem fR_same {ws ws' : Ways} (i : ∀ e, e ∈ ws' ↔ e ∈ ws) (a b : Str) (n : Int) : fR ws' a b n = fR ws a b n := by
  rw [Bool.eq_iff_iff]
  exact ⟨fR_sub fun e => (i e).mp, fR_sub fun e => (i e).mpr⟩
theorem fR_sw (ws : Ways) (a b : Str) (n : Int) : fR (ws.map Wk.sw) b a n = fR ws a b n := by
  rw [Bool.eq_iff_iff, fR_iff, fR_iff]
  exact Wr.sw_iff
theorem fR_ng (ws : Ways) (a b : Str) (n : Int) : fR (ws.map Wk.ng) a b n = fR ws a b (-n) := by
  rw [Bool.eq_iff_iff, fR_iff, fR_iff]
  exact ⟨fun h => h.ng', fun h => by have := h.ng; rwa [Int.neg_neg] at this⟩
theorem fR_rn {ws : Ways} {V : List Str} {f k : Str → Str} (hs : ∀ e ∈ ws, e.1 ∈ V ∧ e.2.1 ∈ V) (h : ∀ x ∈ V, k (f x) = x) {a b : Str} (ha : a ∈ V) (hb : b ∈ V) (n : Int) : fR (ws.map (Wk.rn f)) (f a) (f b) n = fR ws a b n := by
  rw [Bool.eq_iff_iff, fR_iff, fR_iff]
  exact Wr.rn_iff (fun e he => (hs e he).1) (fun e he => (hs e he).2) h ha hb
end Od
end
section
set_option Elab.async false
set_option linter.all false
set_option maxRecDepth 100000
set_option autoImplicit false
/-! maps shuffled, renamed, negated, turned round: they are maps again; a renaming told by a dict -/
namespace Od
open PySem PySem.Spec PyProof.Rows L2 Day Wk
theorem OkMap.perm {r r' : Row} {ws ws' : Ways} (o : OkMap r ws) (h : r'.Perm r) (k : ws'.Perm ws) : OkMap r' ws' :=
  ⟨fun e => o.r0 (by rw [e] at h; exact h.symm.eq_nil), by rw [h.length_eq]; exact o.r6, h.nodup_iff.mpr o.rn, fun z hz => o.nm z (h.mem_iff.mp hz), by rw [k.length_eq]; exact o.w12, k.nodup_iff.mpr o.wn,
    fun e he => by obtain ⟨h1, h2, h3⟩ := o.wi e (k.mem_iff.mp he); exact ⟨h.mem_iff.mpr h1, h.mem_iff.mpr h2, h3⟩⟩
theorem nodup_mapOn {α β : Type} {f : α → β} : ∀ {l : List α}, l.Nodup → (∀ x ∈ l, ∀ y ∈ l, f x = f y → x = y) → (l.map f).Nodup
  | [], _, _ => List.nodup_nil
  | x :: l, h, i => by
    obtain ⟨h1, h2⟩ := List.nodup_cons.mp h
    refine List.nodup_cons.mpr ⟨fun hm => ?_, nodup_mapOn h2 fun a ha b hb => i a (List.mem_cons_of_mem _ ha) b (List.mem_cons_of_mem _ hb)⟩
    obtain ⟨y, hy, e⟩ := List.mem_map.mp hm
    exact h1 (by rw [← i y (List.mem_cons_of_mem _ hy) x List.mem_cons_self e]; exact hy)
theorem OkMap.sw {r : Row} {ws : Ways} (o : OkMap r ws) : OkMap r (ws.map Wk.sw) := by
  refine ⟨o.r0, o.r6, o.rn, o.nm, by rw [List.length_map]; exact o.w12, nodup_mapOn o.wn fun x _ y _ e => ?_, fun e he => ?_⟩
  · rw [← sw_sw x, e, sw_sw]
  · obtain ⟨x, hx, rfl⟩ := List.mem_map.mp he
    obtain ⟨h1, h2, h3⟩ := o.wi x hx
    exact ⟨h2, h1, h3⟩
theorem OkMap.ng {r : Row} {ws : Ways} (o : OkMap r ws) : OkMap r (ws.map Wk.ng) := by
  refine ⟨o.r0, o.r6, o.rn, o.nm, by rw [List.length_map]; exact o.w12, nodup_mapOn o.wn fun x _ y _ e => ?_, fun e he => ?_⟩
  · obtain ⟨x1, x2, x3⟩ := x
    obtain ⟨y1, y2, y3⟩ := y
    unfold Wk.ng at e
    injection e with e1 e
    injection e with e2 e
    dsimp only at e1 e2 e
    rw [e1, e2, show x3 = y3 by omega]
  · obtain ⟨x, hx, rfl⟩ := List.mem_map.mp he
    obtain ⟨h1, h2, h3, h4⟩ := o.wi x hx
    refine ⟨h1, h2, ?_, ?_⟩
    · show -30 ≤ -x.2.2
      omega
    · show -x.2.2 ≤ 30
      omega
theorem OkMap.rn_ {r : Row} {ws : Ways} (o : OkMap r ws) {f k : Str → Str} (hf : ∀ x ∈ r, f x ∈ r) (hk : ∀ x ∈ r, k (f x) = x) : OkMap r (ws.map (Wk.rn f)) := by
  refine ⟨o.r0, o.r6, o.rn, o.nm, by rw [List.length_map]; exact o.w12, nodup_mapOn o.wn fun x hx y hy e => ?_, fun e he => ?_⟩
  · obtain ⟨a1, a2, _⟩ := o.wi x hx
    obtain ⟨b1, b2, _⟩ := o.wi y hy
    obtain ⟨x1, x2, x3⟩ := x
    obtain ⟨y1, y2, y3⟩ := y
    unfold Wk.rn at e
    injection e with e1 e
    injection e with e2 e
    dsimp only at e1 e2 e a1 a2 b1 b2
    have e3 : x1 = y1 := by rw [← hk _ a1, e1, hk _ b1]
    have e4 : x2 = y2 := by rw [← hk _ a2, e2, hk _ b2]
    rw [e, e3, e4]
  · obtain ⟨x, hx, rfl⟩ := List.mem_map.mp he
    obtain ⟨h1, h2, h3⟩ := o.wi x hx
    exact ⟨hf _ h1, hf _ h2, h3⟩
theorem All2.perm {α : Type} {P : V → α → Prop} {us ys : List V} (h : ys.Perm us) : ∀ {ws : List α}, All2 P us ws → ∃ ws', ws'.Perm ws ∧ All2 P ys ws' := by
  induction h with
  | nil => exact fun {ws} h => ⟨ws, .refl _, h⟩
  | cons x _ ih =>
    intro ws h
    cases h with
    | cons h t =>
      obtain ⟨w', p, q⟩ := ih t
      exact ⟨_ :: w', p.cons _, .cons h q⟩
  | swap x y l =>
    intro ws h
    cases h with
    | cons h t =>
      cases t with
      | cons h2 t => exact ⟨_, List.Perm.swap _ _ _, .cons h2 (.cons h t)⟩
  | trans _ _ i1 i2 =>
    intro ws h
    obtain ⟨w', p, q⟩ := i2 h
    obtain ⟨w2, p2, q2⟩ := i1 q
    exact ⟨w2, p2.trans p, q2⟩
/-! ### a renaming -/
def nameOf (r r' : Row) (c : Str) : Str := (r'[r.idxOf c]?).getD c
theorem nameOf_at {r r' : Row} {c : Str} (h : c ∈ r) (hl : r'.length = r.length) : ∃ i, ∃ (h1 : i < r.length) (h2 : i < r'.length), r[i] = c ∧ r'[i] = nameOf r r' c ∧ i = r.idxOf c := by
  have h1 := List.idxOf_lt_length_of_mem h
  have h2 : r.idxOf c < r'.length := by omega
  refine ⟨r.idxOf c, h1, h2, List.getElem_idxOf h1, ?_, rfl⟩
  unfold nameOf
  rw [List.getElem?_eq_getElem h2]
  rfl
theorem nameOf_mem {r r' : Row} {c : Str} (h : c ∈ r) (hp : r'.Perm r) : nameOf r r' c ∈ r := by
  obtain ⟨i, h1, h2, e1, e2, e3⟩ := nameOf_at h hp.length_eq
  rw [← e2]
  exact hp.mem_iff.mp (List.getElem_mem h2)
theorem nameOf_back {r r' : Row} {c : Str} (h : c ∈ r) (hp : r'.Perm r) (hn : r.Nodup) : nameOf r' r (nameOf r r' c) = c := by
  obtain ⟨i, h1, h2, e1, e2, e3⟩ := nameOf_at h hp.length_eq
  have hm : nameOf r r' c ∈ r' := by rw [← e2]; exact List.getElem_mem h2
  obtain ⟨j, k1, k2, f1, f2, f3⟩ := nameOf_at hm hp.length_eq.symm
  have hn' : r'.Nodup := hp.nodup_iff.mpr hn
  have : j = i := (List.getElem_inj hn').mp (f1.trans e2.symm)
  subst this
  rw [← f2, e1]
theorem merge_new : ∀ (kvs acc : List (Key × V)), ((acc ++ kvs).map Prod.fst).Nodup → mergeK acc kvs = acc ++ kvs
  | [], acc, _ => by rw [List.append_nil]; rfl
  | (k, v) :: kvs, acc, h => by
    have h' : (((acc ++ [(k, v)]) ++ kvs).map Prod.fst).Nodup := by
      rw [List.append_assoc]
      exact h
    show mergeK (putK acc k v) kvs = _
    have e : putK acc k v = acc ++ [(k, v)] := by
      unfold putK
      rw [if_neg]
      intro hm
      obtain ⟨kv, hkv, e⟩ := List.any_eq_true.mp hm
      have e := of_decide_eq_true e
      rw [List.map_append, List.nodup_append] at h
      exact h.2.2 kv.1 (List.mem_map.mpr ⟨kv, hkv, rfl⟩) k (List.mem_map.mpr ⟨(k, v), List.mem_cons_self, rfl⟩) e
    rw [e, merge_new kvs _ h', List.append_assoc]
    rfl
theorem fst_zip_keys : ∀ (r r' : Row), r'.length = r.length → ((r.map (Sum.inr : Str → Key)).zip (r'.map V.str)).map Prod.fst = r.map Sum.inr
  | [], r', h => by cases r' with | nil => rfl | cons _ _ => cases h
  | x :: r, [], h => by cases h
  | x :: r, y :: r', h => by
    show Sum.inr x :: ((r.map (Sum.inr : Str → Key)).zip (r'.map V.str)).map Prod.fst = _
    rw [fst_zip_keys r r' (by simpa using h)]
    rfl
theorem val_zip (c : Str) : ∀ (r r' : Row), r'.length = r.length → c ∈ r → valV ((r.map (Sum.inr : Str → Key)).zip (r'.map V.str)) (.inr c) = some (.str (nameOf r r' c))
  | [], _, _, h => by cases h
  | x :: r, [], h, _ => by cases h
  | x :: r, y :: r', h, hc => by
    show valV ((Sum.inr x, V.str y) :: (r.map (Sum.inr : Str → Key)).zip (r'.map V.str)) (.inr c) = _
    by_cases e : x = c
    · subst e
      rw [valV_pos rfl]
      unfold nameOf
      rw [List.idxOf_cons_self]
      rfl
    · have hc' : c ∈ r := by
        rcases List.mem_cons.mp hc with q | q
        · exact absurd q.symm e
        · exact q
      have ih := val_zip c r r' (by simpa using h) hc'
      have e2 : nameOf (x :: r) (y :: r') c = nameOf r r' c := by
        unfold nameOf
        rw [List.idxOf_cons, cond_eq_if, if_neg (by simpa using e)]
        rfl
      rw [e2, ← ih]
      unfold valV
      rw [List.find?_cons, decide_eq_false (fun q => e (by injection q))]
theorem val_names {r r' : Row} (hp : r'.Perm r) (hn : r.Nodup) {c : Str} (hc : c ∈ r) : valV (mergeK [] ((r.map (Sum.inr : Str → Key)).zip (r'.map V.str))) (.inr c) = some (.str (nameOf r r' c)) := by
  rw [merge_new]
  · exact val_zip c r r' hp.length_eq hc
  · rw [List.nil_append, fst_zip_keys r r' hp.length_eq]
    exact nodup_mapOn hn fun x _ y _ e => by injection e
end Od
end
section
set_option Elab.async false
set_option linter.all false
set_option maxRecDepth 100000
set_option maxHeartbeats 2000000
set_option autoImplicit false
/-! dict(zip(a, b)) of two lists: a rule of one's own -/
namespace Od
open PySem PySem.Spec PyProof.Rows L2
theorem kv_zip : ∀ {ks : List Key} {ys : List V} {its : List Value}, Vals ys its → KV (ks.zip ys) (ks.zip its)
  | [], _, _, _ => by
    rw [List.zip_nil_left, List.zip_nil_left]
    exact .nil
  | k :: ks, _, _, .nil => by
    rw [List.zip_nil_right, List.zip_nil_right]
    exact .nil
  | k :: ks, _, _, .cons h t => by
    rw [List.zip_cons_cons, List.zip_cons_cons]
    exact .cons ⟨rfl, h⟩ (kv_zip t)
def tDictZip (K : PySem.W.Frag) (ta : TA) : TE := fun σ H Q => ta σ H fun vs H1 => ∃ (a b : Addr) (ks : List Key) (ys : List V), vs = [.ref a, .ref b] ∧ SqL K H1 a (ks.map kV) ∧ SqL K H1 b ys ∧ ks.length = ys.length ∧
  ∀ p, H1 p = none → Q (.ref p) (upd H1 p (.dK (mergeK [] (ks.zip ys))))
theorem pe_dictZip {X : Cx} {e e2 : Expr} {ta : TA} {p p2 q pos : Pos} (hg : Gl X "dict") (hm : X.mg "dict" = none) (hg2 : Gl X "zip") (hm2 : X.mg "zip" = none) (ha : PA X [e, e2] ta) (hc : X.calm = true := by rfl)
    (hs : starEach [e, e2] X.env = (false, eval e X.env) :: starEach [e2] X.env := by rfl) (hpl : (backTo q (starEach [e2] X.env)).any (·.1) = false := by rfl)
    (na : starEach [Expr.Call (.Name "zip" p2) [e, e2] [] q] X.env = (false, eval (Expr.Call (.Name "zip" p2) [e, e2] [] q) X.env) :: starEach [] X.env := by rfl) :
    PE X (.Call (.Name "dict" p) [.Call (.Name "zip" p2) [e, e2] [] q] [] pos) (tDictZip X.K ta) := by
  refine ⟨fun pins s σ H Q I h => ?_⟩
  refine Call_ (ld_blt I hg hm PyProof.Rows.boot_dict ?_)
  refine PyProof.Rows.callWith_type1 (PyProof.Rows.args_cons ?_ na) na rfl
  refine Call_ (ld_blt I hg2 hm2 PyProof.Rows.boot_zip (PyProof.Rows.callWith_type1 (thn (ha.run q pins s σ H _ I h) fun us s1 ⟨vs, H1, I1, r1, q1⟩ => ?_) hs hpl))
  obtain ⟨a, b, ks, ys, rfl, hqx, hqy, hl, q1⟩ := q1
  cases r1 with
  | cons r rr =>
    cases rr with
    | cons r' rr =>
      cases rr
      cases r
      cases r'
      obtain ⟨its, rv, p1, z1⟩ := I1.list hqx
      obtain ⟨its2, rv2, p2', z2⟩ := I1.list hqy
      have la : a < s1.heap.objs.size := p1.lt
      have lb : b < s1.heap.objs.size := p2'.lt
      have l1 := rv.length
      have l2 := rv2.length
      rw [List.length_map] at l1 z1
      refine call_zip_2 p1.isList p2'.isList fun h' hz hTI hTO h1 h2 hsz hk => ?_
      refine PyProof.Rows.args_nil ?_
      refine PySem.call_dict_pairs (knd := mixKind X.prog X.w) (kvs := ks.zip its2) (PairArg.zip _ _ _ _ _ a b (PySem.W.ktu_apart s1.heap.objs.size a b la lb) its.toArray its2.toArray) (I1.ok.hd hc)
        ⟨hz, hTI, ⟨_, _, hTO⟩, h1, h2, p1.isList.at fun o e => hk _ _ e, p2'.isList.at fun o e => hk _ _ e⟩ ⟨?_, fun i key v hr => ?_⟩ ?_ fun h2' tk hd' k => ?_
      · rw [List.length_zip, List.size_toArray, List.size_toArray]
        omega
      · obtain ⟨e1, e2'⟩ := hr
        rw [List.getElem?_toArray] at e1 e2'
        have hi : i < ks.length := by
          have := (List.getElem?_eq_some_iff.mp e1).1
          omega
        have hkk := List.getElem?_eq_getElem hi
        obtain ⟨u, hu, rx⟩ := rv.get (i := i) (x := kV ks[i]) (by rw [List.getElem?_map, hkk]; rfl)
        rw [hu] at e1
        cases e1
        exact ⟨ks[i], List.getElem?_zip_eq_some.mpr ⟨hkk, e2'⟩, kV_is rx⟩
      · rw [List.size_toArray, List.size_toArray]
        exact Nat.le_trans (Nat.min_le_right _ _) (by omega)
      · have kk : ∀ c o, s1.heap.get? c = some o → h2'.get? c = some o := fun c o e => k c o (fun hm => by
          have hlt := Heap.lt_size e
          simp only [List.mem_cons, List.not_mem_nil, or_false] at hm
          rcases hm with z | z | z | z
          · rw [z] at hlt; exact absurd hlt (Nat.not_lt.mpr (Nat.le_add_right _ _))
          · rw [z] at hlt; exact absurd hlt (Nat.not_lt.mpr (Nat.le_add_right _ _))
          · rw [z] at hlt; exact absurd hlt (Nat.lt_irrefl _)
          · rw [z] at hlt; exact absurd hlt (Nat.not_lt.mpr (Nat.le_add_right _ _))) (hk c o e)
        have hle : s1.heap.objs.size ≤ h'.objs.size := by omega
        have hb : (h'.objs.size == sysModules) = false := beq_eq_false_iff_ne.mpr (Nat.ne_of_gt (Nat.lt_of_lt_of_le I1.big hle))
        have hlen : (mergeK [] (ks.zip ys)).length ≤ sizeLine := by
          refine Nat.le_trans (length_mergeK (ks.zip ys) []) ?_
          rw [List.length_nil, Nat.zero_add, List.length_zip]
          omega
        exact ⟨.ref h'.objs.size, upd H1 h'.objs.size (.dK (mergeK [] (ks.zip ys))), I1.laid (t' := tk) kk hle (show ObjOk X.prog X.w _ _ _ (.dK (mergeK [] (ks.zip ys))) from ⟨hlen, hb, merged [] (ks.zip its2), KV.merge (kv_zip rv2) .nil, hd'⟩), rfl, q1 _ (I1.hok.fresh hle)⟩
end Od
end
section
set_option Elab.async false
set_option linter.all false
set_option maxRecDepth 100000
set_option maxHeartbeats 4000000
set_option autoImplicit false
/-! own exception classes over ValueError, whose __init__ says super().__init__(..): made, read, asked by isinstance, raised -/
namespace Od
open PySem PySem.Spec PyProof.Rows L2
/-! ### the wrapper that super().__init__ gives, called -/
section
open PySem.W PySem.Calls
variable {prog : Program} {w : World} {A : Around} {E : Value → Shared → Prop} {h : Heap} {g : Array GenState} {d : Drawn} {t : Nat} {os : OsState}
variable {nm q : Str} {C N : Addr} {bs bm : List Value} {hdct : Bool} {sn : List Str} {sub : List Value} {ab : Bool} {col : Option Bool} {dd : Option Addr} {k0 k1 k2 k3 k5 : Option Value}
theorem call_mwVE {u e t0 : Addr} {rest : List Value} {Q : Value → Shared → Prop}
    (hC : h.get? C = some (excClassObj nm q C N bs bm hdct sn sub ab col dd k0 k1 k2 k3 k5 "ValueError.__new__")) (he : h.get? e = some (HandSPX.excO C t0)) (hu : h.get? u = some (kxs_mw "ValueError.__init__" e)) (hrest : rest.length ≤ sizeLine)
    (hq : ∀ h' t1, (∀ b o, b ≠ e → h.get? b = some o → h'.get? b = some o) → h'.get? e = some (HandSPX.excO C t1) → Q .none ⟨h', g, d, t, os⟩) :
    wpAny (model prog w) A (call (.ref u) rest) Q E ⟨h, g, d, t, os⟩ := by
  refine wpAny_call (codeAny_of_tree ?_)
  show wpAny _ A.in1 (callAny (.ref u) ⟨rest, []⟩) _ _ _
  simp only [callAny]
  refine wpAny_bind (wpAny_load hu ?_)
  simp only [kxs_mw, show (Value.type "method-wrapper" == Value.type "method" || Value.type "method-wrapper" == Value.type "builtin_function_or_method" || Value.type "method-wrapper" == Value.type "method-wrapper") = true by decide, if_true]
  refine W.KFB.if_so (by decide) ?_
  refine wpAny_bind (ESX.check_bound F.excBase_ValueError hC he rfl ?_)
  refine wpAny_bind (wpAny_pure (wpAny_pure ?_))
  refine ⟨Code.quiet_builtin _ (by decide +kernel), codeAny_builtin F.excBase_ValueError.initEntry ?_⟩
  rw [Around.under_plainId F.excBase_ValueError.init.plain _]
  wp_walk
  refine hq _ h.objs.size (fun b o hb ho => ?_) ?_
  · rw [Heap.get?_update_other _ _ (Ne.symm hb)]
    exact Heap.get?_push_of_some _ ho
  · rw [Heap.get?_update_self _ (Heap.get?_push_of_some _ he) rfl]
    rfl
end
/-! ### what the written part says of such a class -/
structure SupC (K : PySem.W.Frag) (C : Addr) : Prop where
  ox : OexC K C
  xf : XfC K C
  ec : ExcC K C
  mro : PySem.W.mroIn K C (.ref C) = some true
  sup : PySem.W.ks_superIn K C C "__init__" = some (some (.builtin "ValueError.__init__"))
  val : PySem.W.subIn K (.ref C) (.type "ValueError") = some true
  opq : PySem.W.nsIn K cStatics "thirdparty.any" = some none
/-- its __init__, a def that keeps its class in a cell -/
structure SupFun (K : PySem.W.Frag) (file : Str) (C : Addr) (qual : Str) (args : Arguments) (body : List Stmt) (scope : Scope) (f : Addr) (fd : FuncData) : Prop where
  ex : ∃ (oc : Value) (od : Option Addr) (doc pm ct : Value) (osl : Array (Option Value)) (cc : Addr) (ccl : Value) (ccd : Option Addr) (ccs : Array (Option Value)) (cd : Addr) (kcl : Value) (kcd : Option Addr) (kcs : Array (Option Value)) (vs : Array Value) (tf : Tok) (kV : Value) (an : Option Addr),
    fd = PySem.W.fnX "__init__" qual args body scope [("__class__", cc)] .none kV doc pm an (.ref cd) ct ∧ K.lookup f = some ⟨oc, od, .func fd, osl⟩ ∧ PySem.W.codeIn K (.ref cd) qual = true ∧
      K.lookup cc = some ⟨ccl, ccd, .cell (some (.ref C)), ccs⟩ ∧ K.lookup cd = some ⟨kcl, kcd, .fields vs, kcs⟩ ∧ vs[2]? = some (.str file tf)
/-- what the program says of the name super -/
structure SupP (P : Program) (file : Str) : Prop where
  hfile : ((P.main.file : Str) == file) = true
  htop : (P.main.scope.names.lookup ("super" : Str)).isSome = false
/-- what the def's scope says -/
structure SupS (scope : Scope) (args : Arguments) (x : Str) : Prop where
  su : scope.names.lookup ("super" : Str) = some .globalImplicit
  cl : scope.names.lookup ("__class__" : Str) = some .free
  lo : scope.names.lookup x = some .local
  hd : ∃ ar : Arg, (args.posonlyargs ++ args.args).head? = some ar ∧ ar.arg = x
abbrev supNF (qual : Str) (args : Arguments) (scope : Scope) (cc cd : Addr) : NdefX.NF := ⟨"__init__", qual, args, [], scope, [("__class__", cc)], cd⟩
/-- super().__init__(e), then the rest -/
def tSup (C : Addr) (ta : TA) (tr : TS) : TS := fun D σ H => ∃ a : Addr, σ[0]? = some (some (.ref a)) ∧ H a = some (exo a C none) ∧ ta σ H fun vs H1 => vs.length ≤ 1000 ∧ H1 a = some (exo a C none) ∧ tr D σ H1
/-- how the call is evaluated -/
def SupEv (e : Expr) (p0 p1 p2 p3 : Pos) (env : Env) : Prop := ∃ pl : Sem Bool, eval (.Call (.Attribute (.Call (.Name "super" p0) [] [] p1) "__init__" p2) [e] [] p3) env = (do
      let ov ← attributeBase (.Call (.Name "super" p0) [] [] p1) "__init__" env (eval (.Call (.Name "super" p0) [] [] p1) env)
      standAt p2.atName
      let (f, first) ← holding [ov] (getMethod ov "__init__" pl)
      callWith p3 f first (backTo p3 (starEach [e] env)) [])
theorem Inv.addPin {X : Cx} {pins : List (Addr × Obj)} {σ : L2.St} {H : Hp} {s : Shared} {p : Addr × Obj} (I : Inv X pins σ H s) (h : s.heap.get? p.1 = some p.2 ∧ H p.1 = none ∧ p.1 ≠ X.env.locals ∧ p.1 ∉ X.fs ∧ ∀ v, p.2.data ≠ .cell v) : Inv X (p :: pins) σ H s :=
  ⟨I.ok, I.os, I.bare, I.base, I.loc, I.cell, I.free, I.freeC, fun q hq => by
    rcases List.mem_append.mp hq with hq | hq
    · exact I.pin q (List.mem_append_left _ hq)
    · rcases List.mem_cons.mp hq with rfl | hq
      · exact h
      · exact I.pin q (List.mem_append_right _ hq), I.hok, I.len⟩
theorem Inv.dropPin {X : Cx} {pins : List (Addr × Obj)} {σ : L2.St} {H : Hp} {s : Shared} {p : Addr × Obj} (I : Inv X (p :: pins) σ H s) : Inv X pins σ H s :=
  ⟨I.ok, I.os, I.bare, I.base, I.loc, I.cell, I.free, I.freeC, fun q hq => by
    rcases List.mem_append.mp hq with hq | hq
    · exact I.pin q (List.mem_append_left _ hq)
    · exact I.pin q (List.mem_append_right _ (List.mem_cons_of_mem _ hq)), I.hok, I.len⟩
section
variable {P : Program} {w : World} {K : PySem.W.Frag} {mg : Str → Option Value} {base : Heap} {CX : CXT}
open PySem.W PySem.Calls in
/-- the walk from super() to the rest of the body, over any context -/
theorem sup_run {X : Cx} {C f cc cd : Addr} {fd : FuncData} {file x : Str} {e : Expr} {rest : List Stmt} {p0 p1 p2 p3 p4 : Pos} {σ : L2.St} {H : Hp} {s : Shared} {ta : TA} {tr : TS} {D : Ends} {ar : Arg} {vss : Array Value} {tf : Tok} {oc : Value} {od : Option Addr} {osl : Array (Option Value)} {ccl : Value} {ccd : Option Addr} {ccs : Array (Option Value)} {kcl : Value} {kcd : Option Addr} {kcs : Array (Option Value)} {bd : List Stmt}
    (I : Inv X [] σ H s) (SC : SupC X.K C) (hP : SupP X.prog file) (lk : X.K.lookup f = some ⟨oc, od, .func fd, osl⟩) (hcc : X.K.lookup cc = some ⟨ccl, ccd, .cell (some (.ref C)), ccs⟩) (hco : X.K.lookup cd = some ⟨kcl, kcd, .fields vss, kcs⟩) (hvs : vss[2]? = some (.str file tf))
    (su : X.env.kindOf ("super" : Str) = some .globalImplicit) (cl : X.env.kindOf ("__class__" : Str) = some .free) (lo : X.env.kindOf x = some .local) (vi : Vis X.env.scope x) (hd : (fd.params.posonlyargs ++ fd.params.args).head? = some ar) (hx : ar.arg = x)
    (ef : X.env.func = some f) (ec : X.env.code = .ref cd) (ecl : X.env.cells.lookup ("__class__" : Str) = some cc) (hN : X.N[0]? = some x) (hsu : X.mg "super" = none) (hta : PA X [e] ta) (htr : PSs X rest tr)
    (he : starEach [e] X.env = (false, eval e X.env) :: starEach [] X.env) (hme : SupEv e p0 p1 p2 p3 X.env) (hq : tSup C ta tr D σ H) :
    PySem.wpAt (model X.prog X.w) X.A (.func bd X.env) (execs (.Expr (.Call (.Attribute (.Call (.Name "super" p0) [] [] p1) "__init__" p2) [e] [] p3) p4 :: rest) X.env) (SP X [] D) X.xe s := by
  obtain ⟨a, ha0, hex, hq⟩ := hq
  obtain ⟨nm, qq, N', bs, bm, sn, sub, ab, col, dd, k0, k1, k2, k3, k5, hC, hbm⟩ := SC.ox.cls
  have hcl : clsIn X.K C = some { name := nm, bases := bs, mro := .ref C :: bm, ns := N', qualname := qq, hasDict := true, slotNames := sn, subclasses := sub, abstract := ab, collection := col, hasDel := false } := by unfold clsIn; rw [hC] <;> rfl
  obtain ⟨m, hm, hlk⟩ := id I.loc
  obtain ⟨u0, hu0, lk0⟩ := hlk 0 x (.ref a) hN ha0 vi
  obtain rfl : u0 = Value.ref a := hu0
  have hv : m x = some (.ref a) := by
    rcases lk0 with ⟨_, h⟩ | ⟨h, _⟩
    · exact h
    · rw [lo] at h
      rcases h with h | h <;> cases h
  obtain ⟨t1, hoe⟩ := exo_at I.hok hex
  obtain ⟨mb, hb1, hb2⟩ := I.mod.blt
  have KX := I.kIn
  obtain ⟨hp, g, dr, tk, os⟩ := s
  refine ks_wpAt_execs_cons ?_
  refine ks_wpAt_Expr_any ?_ (by unfold interactive; rw [I.ok.kind]; rfl)
  obtain ⟨pl, hme⟩ := hme
  refine ks_wpAt_MethodCall (pl := pl) ?_ hme
  refine ks_wpAt_super_base (env := X.env) su cl (by decide) ef (KX _ _ lk) rfl hd ec (KX _ _ hco) rfl hvs hP.hfile hP.htop ?_
  refine ks_loadName_global I.ok.kind su (loadGlobal_builtin (by rw [I.ok.glob]; exact I.mod.glob.keeps I.bk) hsu (by rw [I.ok.blt]; exact hb1.keeps I.bk) ((hb2 "super" (by decide)).trans (show bootBuiltins "super" = some (.type "super") from by first | rfl | decide +kernel | kernel_rfl)) ⟨rfl, ?_⟩)
  refine wpAny_loadName_free I.ok.kind cl ecl ⟨_, KX _ _ hcc, rfl⟩ ?_
  refine wpAny_loadName_local I.ok.kind (by rw [hx]; exact lo) hm (by rw [hx]; exact hv) ?_
  refine ks_wpAny_isType_cls (KX _ _ hC) rfl ⟨rfl, ?_⟩
  refine ks_wpAny_call_super (KX _ _ hC) rfl hoe rfl (fun c z => nomatch z) (looks_mroIn KX SC.mro) (fun h2 hso k2 => ?_)
  have I2 : Inv X [] σ H ⟨h2, g, dr, tk, os⟩ := I.kept (t' := tk) k2
  have ho2 := k2 _ _ hoe
  have J2 : InstAt h2 a _ C none := ⟨ho2, rfl, rfl, trivial⟩
  refine kxs_getMethod kxs_ValueError hso (looks_opaque I2.kIn SC.opq) (l₀ := Value.ref C :: bm) (fun A Q E s k q => wpAny_bind ((looks_clsIn I2.kIn hcl) A _ E s k (wpAny_pure q))) rfl I2.kIn (by
    have z := SC.sup
    unfold ks_superIn at z
    rw [hcl] at z
    exact z) (J2.type.andThen (looks_subIn I2.kIn SC.val)) (ks_ne I2.kIn J2 hcl) (by decide) ?_
  obtain ⟨h3, hh3⟩ : ∃ h3, h3 = h2.push (kxs_mw "ValueError.__init__" a) := ⟨_, rfl⟩
  have k3 : ∀ b o, h2.get? b = some o → h3.get? b = some o := fun b o z => by rw [hh3]; exact Heap.get?_push_of_some _ z
  have hmw : h3.get? h2.objs.size = some (kxs_mw "ValueError.__init__" a) := by rw [hh3]; exact Heap.get?_push_at rfl rfl
  rw [← hh3]
  have I3 : Inv X [(h2.objs.size, kxs_mw "ValueError.__init__" a)] σ H ⟨h3, g, dr, tk + 1, os⟩ := by
    refine Inv.addPin (I2.kept (t' := tk + 1) k3) ⟨hmw, I2.hok.fresh (Nat.le_refl _), Ne.symm (Nat.ne_of_lt I2.lt), I2.nofs (Nat.le_refl _), fun v z => nomatch z⟩
  show wpAny _ _ (callWith p3 (.ref h2.objs.size) [] (backTo p3 (starEach [e] X.env)) []) _ _ _
  rw [he]
  refine kxs_callWith (i := "ValueError.__init__") (x := a) rfl (evalArgs_plain ?_)
  have run := hta.run p3 _ _ σ H _ I3 hq
  rw [he] at run
  refine thn run fun us s4 ⟨vs, H4, I4, r4, hlv, ea, q4⟩ => ?_
  obtain ⟨hp4, _⟩ := I4.pin (h2.objs.size, kxs_mw "ValueError.__init__" a) (by simp)
  refine ⟨hp4, ?_⟩
  obtain ⟨t4, hoe4⟩ := exo_at I4.hok ea
  obtain ⟨hp5, g5, d5, tk5, os5⟩ := s4
  have hlen : us.length ≤ sizeLine := by
    rw [← Paired.length r4, sizeLine_eq]
    omega
  refine call_mwVE (I4.kIn _ _ hC) hoe4 hp4 hlen fun h6 t6 k6 hx6 => ?_
  have J := (Inv.dropPin I4).write (t' := tk5) (x := a) (e := a) (o := exo a C none) (by rw [ea]; exact True.intro) (.inl rfl) k6 ⟨_, hx6⟩ (exo_ok hx6)
  have eu : upd H4 a (exo a C none) = H4 := by
    funext b
    by_cases hb : b = a
    · rw [hb, L2.upd_same, ea]
    · rw [L2.upd_ne hb]
  rw [eu] at J
  exact PySem.wpAt_of_wpAny (htr.run [] _ σ H4 D J q4)
theorem fn_sup {k : Nat} {f C : Addr} {fd : FuncData} {file qual x : Str} {args : Arguments} {e : Expr} {rest : List Stmt} {scope : Scope} {p0 p1 p2 p3 p4 : Pos} {N ps : List Str} {sp : Sp}
    (F : SupFun K file C qual args (.Expr (.Call (.Attribute (.Call (.Name "super" p0) [] [] p1) "__init__" p2) [e] [] p3) p4 :: rest) scope f fd) (SC : SupC K C) (hP : SupP P file) (S : NdefX.NScope N ps ["__class__"] scope) (SS : SupS scope args x)
    (hx : N[0]? = some x) (hsu : mg "super" = none) (len : ∀ vs H Q E, sp vs H Q E → vs.length = ps.length)
    (hbody : ∀ (cc cd : Addr) (A : Around) (outer : List Env) (s : Shared) (H : Hp) (vs : List V) (Q : VK) (E : XK), Room k (A.deeper (NdefX.envF (supNF qual args scope cc cd) f s.heap.objs.size)) → sp vs H Q E →
      ∃ ta tr, PA (NdefX.ncx CX P w K mg base N (supNF qual args scope cc cd) f A outer s H E) [e] ta ∧ PSs (NdefX.ncx CX P w K mg base N (supNF qual args scope cc cd) f A outer s H E) rest tr ∧
        tSup C ta tr { nx := fun _ H' => Q .non H', rt := Q } (NdefX.startF N vs [none]) H)
    (he : ∀ env, starEach [e] env = (false, eval e env) :: starEach [] env := by intro _; rfl) (hme : ∀ env, SupEv e p0 p1 p2 p3 env := by intro _; exact ⟨_, rfl⟩) :
    FnOk P w K mg base CX (k + 1) f fd ps sp := by
  refine ⟨len, fun A outer s H args' us vs Q E hr e0 hb r hsp => ?_⟩
  have hl := len _ _ _ _ hsp
  obtain ⟨oc, od, doc, pm, ct, osl, cc, ccl, ccd, ccs, cd, kcl, kcd, kcs, vss, tf, kV, an, rfl, lk, hcd, hcc, hco, hvs⟩ := F.ex
  have KX : K.In s.heap := e0.mod.kin.keeps fun b o e => (e0.bs b o e).1
  have lim : s.heap.NoLimit := e0.mod.nolimit.keeps fun b o e => (e0.bs b o e).1
  refine PySem.ks_codeAny_call_defAt hr.depth (KX _ _ lk) rfl lim (PySem.W.codeRec_of KX hcd) rfl hb S.nocell (fun ⟨n, v⟩ hy => S.par n (List.of_mem_zip hy).1) (fun h₁ hns kp => ?_) S.co S.gen S.kind
  obtain ⟨ta, tr, hta, htr, hq⟩ := hbody cc cd A outer s H vs Q E (hr.deeper _) hsp
  have hb0 := e0.mod.kin _ _ hcc
  have Cx : NdefX.CellsAt [("__class__", cc)] ["__class__"] [none] s.heap H := by
    refine ⟨rfl, fun y c hy => ?_, fun y z c h1 h2 => ?_, fun i y hy => ?_⟩
    · have e1 : c = cc := by
        rw [List.lookup_cons] at hy
        split at hy
        · exact (Option.some.inj hy).symm
        · cases hy
      rw [e1]
      exact ⟨(e0.bs _ _ hb0).2, some (.ref C), _, (e0.bs _ _ hb0).1, rfl⟩
    · have key : ∀ y c, ([("__class__", cc)] : List (Str × Addr)).lookup y = some c → y = "__class__" := fun y c hy => by
        rw [List.lookup_cons] at hy
        split at hy
        · rename_i q
          exact eq_of_beq q
        · cases hy
      rw [key y c h1, key z c h2]
    · cases i with
      | zero =>
        cases hy
        exact ⟨cc, rfl, fun v hv => nomatch hv⟩
      | succ i => cases hy
  have I : Inv (NdefX.ncx CX P w K mg base N (supNF qual args scope cc cd) f A outer s H E) [] (NdefX.startF N vs [none]) H { s with heap := h₁, toks := s.toks + (ps.zip us).length } := NdefX.inv_startN S hr.hd e0 hl r Cx hns kp
  obtain ⟨ar, har, hax⟩ := SS.hd
  have run := sup_run (bd := .Expr (.Call (.Attribute (.Call (.Name "super" p0) [] [] p1) "__init__" p2) [e] [] p3) p4 :: rest) (p0 := p0) (p1 := p1) (p2 := p2) (p3 := p3) (p4 := p4) I SC hP lk hcc hco hvs SS.su SS.cl SS.lo (.inl SS.lo) har hax rfl rfl rfl hx hsu hta htr (he _) (hme _) hq
  refine PySem.ks_wpAt_mono run (fun fl s' hs => ?_) fun e s' hs => hs
  have fin : ∀ {σ' : L2.St} {H' : Hp} {v : V} {u : Value}, Inv (NdefX.ncx CX P w K mg base N (supNF qual args scope cc cd) f A outer s H E) [] σ' H' s' → L2.RelV v u → Q v H' → CE outer P w H s Q u s' :=
    fun {σ' H' v u} J rv q => ⟨v, H', J.os, J.bare, J.base, J.hok, rv, q⟩
  cases fl with
  | ret u =>
    obtain ⟨v, σ', H', J, rv, q⟩ := hs
    exact fin J rv q
  | next =>
    obtain ⟨σ', H', J, q⟩ := hs
    exact fin (v := V.non) (u := Value.none) J rfl q
  | brk =>
    obtain ⟨_, _, _, q⟩ := hs
    exact False.elim q
  | cont =>
    obtain ⟨_, _, _, q⟩ := hs
    exact False.elim q
end
end Od
end
section
set_option Elab.async false
set_option linter.all false
set_option maxRecDepth 100000
set_option maxHeartbeats 4000000
set_option autoImplicit false
/-! own exceptions: made as values, their fields read, asked by isinstance; raised -/
namespace Od
open PySem PySem.Spec PyProof.Rows L2
/-! ### made -/
/-- a class of the module with an __init__ that is walked -/
structure OMk (P : Program) (w : World) (K : PySem.W.Frag) (mg : Str → Option Value) (base : Heap) (j : Nat) (x : Str) (C : Addr) (sp : Sp) : Prop where
  sc : SupC K C
  gl : mg x = some (.ref C)
  ex : ∃ (fI : Addr) (fd : FuncData) (ps : List Str), PySem.W.findIn K (.ref C) "__init__" = some (some (.ref fI)) ∧ PySem.W.typeIn K (.ref fI) = some (.type "function") ∧ FnOk P w K mg base C8.CX0 j fI fd ps sp ∧ Binds K fd ps []
/-- C(e, ..) as a value -/
def tMkV (C : Addr) (sp : Sp) (ta : TA) : TE := fun σ H Q => ta σ H fun vs H1 => vs.length ≤ 1000 ∧ ∀ a, H1 a = none → sp (.ref a :: vs) (upd H1 a (exo a C none)) (fun v H2 => v = .non ∧ Q (.ref a) H2) fun _ _ _ => False
section
variable {X : Cx} {C : Addr} {sp : Sp} {j : Nat} {x : Str} {e : Expr} {es : List Expr} {ta : TA} {p pos : Pos}
theorem run_mkV {pins : List (Addr × Obj)} {σ : L2.St} {H1 : Hp} {s1 : Shared} {us : List Value} {vs : List V} {Q : V → Hp → Prop} (M : OMk X.prog X.w X.K X.mg X.base j x C sp) (hr : Room (j + 1) X.A) (I1 : Inv X pins σ H1 s1) (r1 : Vals vs us) (hz : vs.length ≤ 1000)
    (q1 : ∀ a, H1 a = none → sp (.ref a :: vs) (upd H1 a (exo a C none)) (fun v H2 => v = .non ∧ Q (.ref a) H2) fun _ _ _ => False) :
    wpAny (model X.prog X.w) X.A (call (.ref C) us) (EP X pins σ Q) X.xe s1 := by
  obtain ⟨fI, fd, ps, iC, tI, F1, hb⟩ := M.ex
  obtain ⟨nm, q, N, bs, bm, sn, sub, ab, col, dd, k0, k1, k2, k3, k5, hC, hbm⟩ := M.sc.ox.cls
  obtain ⟨hp, g, dr, tk, os⟩ := s1
  have hsz : hp.objs.size ≤ hp.objs.size + 1 := Nat.le_succ _
  have hn : H1 (hp.objs.size + 1) = none := I1.hok.fresh hsz
  have hq := q1 (hp.objs.size + 1) hn
  have kk : ∀ b o, hp.get? b = some o → ((hp.push (PySem.W.kdv_tup us)).push (PySem.HandSPX.excO C hp.objs.size)).get? b = some o := fun b o e => Heap.get?_push_of_some _ (Heap.get?_push_of_some _ e)
  have hget : ((hp.push (PySem.W.kdv_tup us)).push (PySem.HandSPX.excO C hp.objs.size)).get? (hp.objs.size + 1) = some (PySem.HandSPX.excO C hp.objs.size) := by heap_get
  have I2 : Inv X pins σ (upd H1 (hp.objs.size + 1) (exo (hp.objs.size + 1) C none)) ⟨(hp.push (PySem.W.kdv_tup us)).push (PySem.HandSPX.excO C hp.objs.size), g, dr, tk, os⟩ :=
    I1.laid (t' := tk) (a := hp.objs.size + 1) (o := exo (hp.objs.size + 1) C none) (h' := (hp.push (PySem.W.kdv_tup us)).push (PySem.HandSPX.excO C hp.objs.size)) kk hsz (exo_ok hget)
  have r2 : Vals (V.ref (hp.objs.size + 1) :: vs) (Value.ref (hp.objs.size + 1) :: us) := .cons rfl r1
  have hl : (Value.ref (hp.objs.size + 1) :: us ++ []).length = ps.length := by
    have e := r2.length
    rw [F1.len _ _ _ _ hq] at e
    rw [List.append_nil]
    exact e.symm
  have hus : us.length ≤ sizeLine := by
    rw [← Paired.length r1, sizeLine_eq]
    omega
  refine wpAny_call (PySem.HandSPX.call_own F.excBase_ValueError (fun Y => PySem.HandSPX.refsVE_contains Y bm hbm) (I1.kIn _ _ hC) (PySem.W.looks_findIn I1.kIn iC) (fun self => PySem.W.bind_fn I1.kIn self tI) hus
    (codeAny_mono (F1.run _ X.stack _ _ ⟨Value.ref (hp.objs.size + 1) :: us, []⟩ (Value.ref (hp.objs.size + 1) :: us) _ _ (fun _ _ _ => False) (hr.make C us []) (I2.env0.make C us []) (by
      have z := hb _ (Value.ref (hp.objs.size + 1) :: us) I2.kIn hl
      rw [List.append_nil] at z
      exact z) r2 hq) fun r s' hq' => ?_))
  cases r with
  | error er => exact hq'.elim
  | ok fl =>
    cases fl with
    | ret u =>
      obtain ⟨v, H2, os2, bare2, un2, hok2, rv, ev, q2⟩ := hq'
      subst ev
      exact ⟨rv, I2.after (u := .ref (hp.objs.size + 1)) (Q := Q) ⟨.ref (hp.objs.size + 1), H2, os2, bare2, un2, hok2, rfl, q2⟩⟩
    | next => exact False.elim hq'
    | brk => exact False.elim hq'
    | cont => exact False.elim hq'
theorem pe_mkV (M : OMk X.prog X.w X.K X.mg X.base j x C sp) (hr : Room (j + 1) X.A) (hg : Gl X x) (ha : PA X (e :: es) ta)
    (hdb : (x == ("__debug__" : Str)) = false := by decide) (he : starEach (e :: es) X.env = (false, eval e X.env) :: starEach es X.env := by rfl) (hpl : (backTo pos (starEach es X.env)).any (·.1) = false := by rfl) :
    PE X (.Call (.Name x p) (e :: es) [] pos) (tMkV C sp ta) := by
  refine ⟨fun pins s σ H Q I h => ?_⟩
  refine wpAny_Call_Name_kw (ld_glob I hg M.gl ?_ hdb)
  refine PySem.W.callWith_K (h₀ := X.base) I.ok.mod.kin M.sc.ox.kC (thn (ha.run pos pins s σ H _ I h) fun us s1 ⟨vs, H1, I1, r1, hlv, q1⟩ => ⟨I1.kIn, ?_⟩) he hpl
  exact run_mkV M hr I1 r1 hlv q1
theorem pe_mkV0 (M : OMk X.prog X.w X.K X.mg X.base j x C sp) (hr : Room (j + 1) X.A) (hg : Gl X x) (hdb : (x == ("__debug__" : Str)) = false := by decide) :
    PE X (.Call (.Name x p) [] [] pos) (tMkV C sp tNil) := by
  refine ⟨fun pins s σ H Q I h => ?_⟩
  refine wpAny_Call_Name_kw (ld_glob I hg M.gl ?_ hdb)
  obtain ⟨hlv, q1⟩ := h
  exact PySem.W.callWith_K0 I.kIn M.sc.ox.kC (run_mkV (us := []) M hr I .nil hlv q1)
end
/-- such a class of the module as it stands behind the top -/
structure SupOf (K : PySem.W.Frag) (mg : Str → Option Value) (x : Str) (C : Addr) (qual : Str) (st : Stmt) (ps : List Str) : Prop where
  sc : SupC K C
  gl : mg x = some (.ref C)
  ex : ∃ (f : Addr) (fd : FuncData), PySem.W.findIn K (.ref C) "__init__" = some (some (.ref f)) ∧ PySem.W.typeIn K (.ref f) = some (.type "function") ∧ SupFun K "/claim/cut.py" C qual (C8.fnArgs st) (C8.fnBody st) (C8.fnScope st) f fd ∧ Binds K fd ps []
/-! ### an exception that is made, by its class and fields -/
/-- at a: an exception of the class C with these fields -/
inductive ErrAt (H : Hp) (a C : Addr) : List (Str × V) → Prop where
  | no (h : H a = some (exo a C none)) : ErrAt H a C []
  | is (d : Addr) (fs : List (Str × V)) (h : H a = some (exo a C (some d))) (hd : H d = some (exd d fs)) : ErrAt H a C fs
theorem ErrAt.le {H H' : Hp} {a C : Addr} {fs : List (Str × V)} (e : ErrAt H a C fs) (l : ∀ b o, H b = some o → H' b = some o) : ErrAt H' a C fs := by
  cases e with
  | no h => exact .no (l _ _ h)
  | is d fs h hd => exact .is d fs (l _ _ h) (l _ _ hd)
section
open PySem.W
variable {prog : Program} {w : World} {A : Around} {E : Value → Shared → Prop} {s : Shared} {K : Frag} {x D : Addr} {ox : Obj} {od : Option Obj}
theorem findObj_dataO {C : Addr} {name : Str} {a g : Value} (hc : (clsIn K C).isSome = true) (ha : findIn K (.ref C) name = some (some a)) (hg : specialIn K a "__get__" = some (some g)) (ht : takesIn K a = some true) : findObj K C od name = some (.bind g a) := by
  obtain ⟨cd, hc⟩ := Option.isSome_iff_exists.mp hc
  unfold findObj
  rw [hc, Option.bind_some, ha, Option.bind_some]
  simp [hg, ht]
theorem kin_classO {Q : Option Value → Shared → Prop} (C : ExcC K D) (X : K.In s.heap) (I : InstAt s.heap x ox D od) (h : Q (some (.ref D)) { s with toks := s.toks + 1 }) : wpAny (model prog w) A (getAttr? (.ref x) "__class__") Q E s := by
  obtain ⟨hga, hgt, hsub, hdct, ha, hn, htk, hm⟩ := C
  have hf : findObj K D od "__class__" = some (.bind (.builtin "getset_descriptor.__get__") (.builtin "object.__class__")) := findObj_dataO (by obtain ⟨cd, hc, _⟩ := any_some hdct; rw [hc]; rfl) ha hn htk
  obtain ⟨hp, g, d, t, os⟩ := s
  have L0 := I.type (M := model prog w)
  have L1 := looks_findIn (M := model prog w) X hga
  have L2 := looks_findIn (M := model prog w) X hgt
  have L3 := looks_find (M := model prog w) X I hf
  have sub : Looks (model prog w) hp (isInstance (.ref x) (.type "BaseException")) true := L0.andThen (looks_subIn X hsub)
  have hx0 : (false && onTheHeap (Value.builtin "BaseException.__getattribute__")) = false := rfl
  have hx2 : (Value.builtin "BaseException.__getattribute__" == Value.builtin "object.__getattribute__") = false := by decide +kernel
  have hx1 : (onTheHeap (Value.ref D) && Value.builtin "BaseException.__getattribute__" == Value.builtin "object.__getattribute__") = false := by rw [hx2]; rfl
  unfold getAttr? getAttrBy? getAttrBy
  refine wpAny_bind (wpAny_mkText (wpAny_bind (wpAny_attempt (wpAny_holding (wpAny_bind (L0.at (wpAny_bind (L1.at ?_))))))))
  show wpAny _ _ (if (onTheHeap (Value.ref D) && Value.builtin "BaseException.__getattribute__" == Value.builtin "object.__getattribute__") = true then _ else _) _ _ _
  rw [hx1, if_neg Bool.false_ne_true]
  unfold getAttrByItsOwn hookBefore
  refine wpAny_bind ?_
  rw [if_pos (show onTheHeap (Value.ref D) = true from rfl)]
  refine L2.at ?_
  refine wpAny_bind (wpAny_attempt (wpAny_holding ?_))
  unfold callGetattribute
  rw [hx0, if_neg Bool.false_ne_true]
  unfold boundAndCalled
  rw [PySem.F.excAttr_ValueError.ga.bind (.ref x)]
  refine wpAny_bind (wpAny_pure ?_)
  show wpAny _ _ (call (.builtin "BaseException.__getattribute__") [.ref x, .str "__class__" t]) _ _ _
  refine wpAny_call (codeAny_call_builtin PySem.F.excAttr_ValueError.ga.plain PySem.F.entry_bexc_ga ?_)
  refine @check_slot (model prog w) _ _ ⟨hp, g, d, t + 1, os⟩ "BaseException.__getattribute__" "BaseException" "__getattribute__" (.ref x) [.str "__class__" t] [] _ (by decide +kernel) (by decide +kernel) sub (PySem.F.args_bexc_ga (.ref x) (.str "__class__" t)) ?_
  unfold Builtin.«object.__getattribute__»
  refine wpAny_bind (wpAny_of_eq (a := ((Value.ref x : Value), [Value.str "__class__" t])) (by first | rfl | (simp only [slotArgs]; rfl)) ?_)
  refine wpAny_bind (wpAny_pure (wpAny_bind (L0.at (wpAny_bind (L3.at ?_)))))
  show wpAny _ _ (holding [Value.builtin "object.__class__"] (call (.builtin "getset_descriptor.__get__") [.builtin "object.__class__", .ref x, .ref D]) >>= ret) _ _ _
  refine wpAny_bind (wpAny_holding (wpAny_call (class_get (s := ⟨hp, g, d, t + 1, os⟩) (ox := ox) (od := od) X I hm ?_)))
  refine wpAny_pure ?_
  show wpAny _ _ (handedOut (.ref D)) _ _ _
  rw [handedOut_of (v := .ref D) rfl]
  first
    | exact wpAny_pure (wpAny_pure h)
    | exact wpAny_pure h
    | exact wpAny_pure (wpAny_bind (wpAny_pure (wpAny_pure h)))
theorem kitxO (C : ExcC K D) : KitX K (.ref x) (.ref D) (fun h => ∃ ox od, InstAt h x ox D od) where
  ty := fun _ _ _ ⟨_, _, I⟩ => I.type
  it := fun _ _ X _ => by
    obtain ⟨cdD, hcD, _⟩ := any_some C.hd
    unfold clsIn at hcD
    split at hcD
    · rename_i c' d' cd' sl' ho
      intro A' Q' E' s' k q
      unfold isType loadHead
      exact wpAny_bind (wpAny_loadPart (k _ _ (X _ _ ho)) (wpAny_pure q))
    · cases hcD
  ne := fun h tp dd its n sl X htp => by
    obtain ⟨cdD, hcD, _⟩ := any_some C.hd
    refine Bool.eq_false_iff.mpr fun q => ?_
    have e : D = tp := Value.ref.inj (beq_iff_eq.mp q)
    subst e
    unfold clsIn at hcD
    split at hcD
    · rename_i c' d' cd' sl' ho
      have z := (X _ _ ho).symm.trans htp
      cases z
    · cases hcD
  ca := fun X ⟨_, _, I⟩ k => kin_classO C X I k
end
section
variable {X : Cx}
theorem ErrAt.inst {pins : List (Addr × Obj)} {σ : L2.St} {H : Hp} {s : Shared} {a C : Addr} {fs : List (Str × V)} (I : Inv X pins σ H s) (e : ErrAt H a C fs) : ∃ ox od, PySem.W.InstAt s.heap a ox C od := by
  cases e with
  | no h =>
    obtain ⟨t, ho⟩ := exo_at I.hok h
    exact ⟨_, none, ho, rfl, rfl, trivial⟩
  | is d fs h hd =>
    obtain ⟨t, ho⟩ := exo_at I.hok h
    obtain ⟨mA, ⟨od, es, ep, hod, _⟩, _⟩ := exd_at I.hok hd
    exact ⟨_, some od, ho, rfl, rfl, hod⟩
/-- isinstance(e, c), e an exception that is held as a value -/
def rIsX (K : PySem.W.Frag) : List V → Hp → VK → Prop := fun xs H Q => ∃ (a C : Addr) (fs : List (Str × V)) (c : V) (cv : Value) (b : Bool), xs = [.ref a, c] ∧ ErrAt H a C fs ∧ ExcC K C ∧ (∀ u, L2.RelV c u → u = cv) ∧ PySem.W.kitOne K (.ref C) cv = some b ∧ Q (.bl b) H
theorem call_isX : CallR X (.builtin "isinstance") (rIsX X.K) := by
  intro pins s σ H xs us Q I r h
  obtain ⟨a, C, fs, c, cv, b, rfl, ea, ec, hcv, e, q⟩ := h
  cases r with
  | cons rx rr =>
    cases rr with
    | cons rt rr =>
      cases rr
      cases rx
      have ecv := hcv _ rt
      subst ecv
      exact PySem.W.kia_one (kitxO ec) I.kIn (ea.inst I) e (fun z => nomatch z) fun tk => ⟨.bl b, H, I.kept (t' := tk) fun _ _ z => z, rfl, q⟩
/-- e.f, e an exception that is held as a value -/
def tExf (K : PySem.W.Frag) (n : Str) (te : TE) : TE := fun σ H Q => te σ H fun x H1 => ∃ (a C : Addr) (fs : List (Str × V)) (v : V), x = .ref a ∧ ErrAt H1 a C fs ∧ XfC K C ∧ PySem.W.findIn K (.ref C) n = some none ∧ fs.lookup n = some v ∧ Q v H1
theorem pe_exf {e : Expr} {te : TE} {pos : Pos} {n : Str} (he : PE X e te) (hb : attributeBase e n X.env (eval e X.env) = eval e X.env := by rfl) : PE X (.Attribute e n pos) (tExf X.K n te) := by
  refine ⟨fun pins s σ H Q I h => ?_⟩
  refine attr_of hb (thn (he.run pins s σ H _ I h) fun u s1 hh => ?_)
  obtain ⟨x, H1, I1, rx, a, C, fs, v, ex, ea, T, hno, l, q⟩ := hh
  subst ex
  obtain rfl : u = Value.ref a := rx
  cases ea with
  | no h => cases l
  | is d fs h hd =>
    obtain ⟨t, ho⟩ := exo_at I1.hok h
    obtain ⟨mA, hns, hr⟩ := exd_at I1.hok hd
    obtain ⟨od, hod, hl⟩ := lookIn_ns hns
    obtain ⟨u, hu, ru⟩ := RelO.some_of (v := v) (o := mA n) (by rw [← l]; exact hr n)
    have J : PySem.W.InstAt s1.heap a _ C (some od) := ⟨ho, rfl, rfl, hod⟩
    exact HandSPX.exc_get I1.kIn J T.ga T.gg T.exC (PySem.W.findObj_own T.hdC hno rfl (by rw [hl, hu])) (handed_of ru) ⟨v, H1, I1.tok _, ru, q⟩
/-! ### the text of a flat value -/
inductive ReprV : V → Str → Prop where
  | int (i : Int) (h : i.natAbs.log2 < 1920) : ReprV (.int i) (Str.ofString (toString i))
  | str (x : Str) (h : (PySem.reprText x).length ≤ sizeLine) : ReprV (.str x) (PySem.reprText x)
  | bl (b : Bool) : ReprV (.bl b) (if b then "True" else "False")
  | non : ReprV .non "None"
def rReprF : List V → Hp → VK → Prop := fun xs H Q => ∃ v t, xs = [v] ∧ ReprV v t ∧ Q (.str t) H
theorem call_reprF : CallR X (.builtin "repr") rReprF := by
  intro pins s σ H xs us Q I r h
  obtain ⟨v, t, rfl, rv, q⟩ := h
  obtain ⟨u, rfl, hu⟩ := vals1 r
  cases rv with
  | int i hz =>
    obtain ⟨tk, rfl⟩ := hu
    exact PySem.P.repr_of_int hz ⟨.str _, H, I.tok _, ⟨_, rfl⟩, q⟩
  | str x hz =>
    obtain ⟨tk, rfl⟩ := hu
    exact PySem.P.repr_of_str ⟨.str _, H, I.tok _, ⟨_, rfl⟩, q⟩ hz
  | bl b =>
    obtain rfl : u = Value.bool b := hu
    exact PySem.P.repr_of_bool ⟨.str _, H, I.tok _, ⟨_, rfl⟩, q⟩
  | non =>
    obtain rfl : u = Value.none := hu
    exact PySem.P.repr_of_none ⟨.str _, H, I.tok _, ⟨_, rfl⟩, q⟩
end
end Od
end
section
set_option Elab.async false
set_option linter.all false
set_option maxRecDepth 100000
set_option maxHeartbeats 2000000
set_option autoImplicit false
/-! the head: facts by places of one's own -/
namespace Od
open PySem PySem.Spec PyProof.Rows L2 He
/-- a def: where it stands, its name, its qualified name, its statement -/
structure DefE where
  ad : PySem.W.Frag → Addr
  name : Str
  qual : Str
  st : Stmt
  sup : Option Str := none
/-- a def of the module, a method of a class, a classmethod -/
def dG (x : Str) (st : Stmt) : DefE := ⟨fun K => ga K x, x, x, st, none⟩
def dM (c m : Str) (q : Str) (st : Stmt) : DefE := ⟨fun K => ma K (ga K c) m, m, q, st, none⟩
def cmF (K : PySem.W.Frag) (c m : Str) : Addr := match PySem.W.recIn K (ma K (ga K c) m) "classmethod" with
  | some (.ref g :: _) => g
  | _ => 0
def dC (c m : Str) (q : Str) (st : Stmt) : DefE := ⟨fun K => cmF K c m, m, q, st, none⟩
/-- the __init__ of an own exception class, which keeps the class in a cell -/
def dS (c : Str) (q : Str) (st : Stmt) : DefE := ⟨fun K => ma K (ga K c) "__init__", "__init__", q, st, some c⟩
def fnA (K : PySem.W.Frag) (d : DefE) : FnW := match K.lookup (d.ad K) with
  | some ⟨_, _, .func fd, _⟩ => some (fd.name, fd.qualname, fd.params, fd.body, fd.scope, fd.globals, (match d.sup with | none => fd.closure | some _ => []), fd.builtins)
  | _ => none
def isNone : Value → Bool
  | .none => true
  | _ => false
theorem isNone_ok {v : Value} (h : isNone v = true) : v = .none := by
  cases v with
  | none => rfl
  | _ => cases h
def DefE.val (d : DefE) : FnW := some (d.name, d.qual, C8.fnArgs d.st, .stmts (C8.fnBody d.st), C8.fnScope d.st, mainGlobals, [], builtinsNs)
/-- the cell that holds the class, the code object that names its file -/
def cellB (K : PySem.W.Frag) (fd : FuncData) (C : Addr) : Bool := match fd.closure, fd.code with
  | [(n, cc)], .ref cd => decide (n = "__class__") && ((match K.lookup cc with
    | some ⟨_, _, .cell (some (.ref D)), _⟩ => decide (D = C)
    | _ => false) && (match K.lookup cd with
    | some ⟨_, _, .fields vs, _⟩ => (match (vs[2]? : Option Value) with
      | some (.str file _) => decide (file = "/claim/cut.py")
      | _ => false)
    | _ => false))
  | _, _ => false
def DefE.ok (K : PySem.W.Frag) (d : DefE) : Bool := PySem.W.keepIn K (.ref (d.ad K)) && (match K.lookup (d.ad K) with
  | some ⟨_, _, .func fd, _⟩ => PySem.W.codeIn K fd.code d.qual && (isNone fd.defaults && (match d.sup with
    | none => true
    | some c => cellB K fd (ga K c)))
  | _ => false)
theorem DefE.sup_ {K : PySem.W.Frag} {d : DefE} {cl : Str} (hs : d.sup = some cl) (hn : d.name = "__init__") (e : fnA K d = d.val) (c : d.ok K = true) : ∃ fd, SupFun K "/claim/cut.py" (ga K cl) d.qual (C8.fnArgs d.st) (C8.fnBody d.st) (C8.fnScope d.st) (d.ad K) fd := by
  obtain ⟨kp, c2⟩ := ba c
  unfold fnA at e
  cases q : K.lookup (d.ad K) with
  | none =>
    rw [q] at c2
    cases c2
  | some o =>
    obtain ⟨oc, od, dt, osl⟩ := o
    rw [q] at c2 e
    cases dt with
    | func fd =>
      rw [hs] at c2 e
      obtain ⟨n1, n2, n3, n4, n5, n6, n7, n8, n9, n10, n11, n12, n13, n14, n15⟩ := fd
      have e2 : (some (n1, n2, n3, n4, n5, n6, [], n15) : FnW) = some (d.name, d.qual, C8.fnArgs d.st, .stmts (C8.fnBody d.st), C8.fnScope d.st, mainGlobals, [], builtinsNs) := e
      simp only [Option.some.injEq, Prod.mk.injEq, true_and] at e2
      obtain ⟨h1, h2, h3, h4, h5, h6, h8⟩ := e2
      subst h1 h2 h3 h4 h5 h6 h8
      obtain ⟨k1, k⟩ := ba (show (PySem.W.codeIn K n13 d.qual && (isNone n8 && cellB K ⟨d.name, d.qual, C8.fnArgs d.st, .stmts (C8.fnBody d.st), C8.fnScope d.st, mainGlobals, n7, n8, n9, n10, n11, n12, n13, n14, builtinsNs⟩ (ga K cl))) = true from c2)
      obtain ⟨k2, k3⟩ := ba k
      unfold cellB at k3
      dsimp only at k3
      split at k3
      · rename_i n cc cd
        obtain ⟨k4, k5⟩ := ba k3
        obtain ⟨k6, k7⟩ := ba k5
        split at k6
        · rename_i ccl ccd D ccs q2
          split at k7
          · rename_i kcl kcd vs kcs q3
            split at k7
            · rename_i file tf q4
              have z1 := of_decide_eq_true k4
              have z2 := of_decide_eq_true k6
              have z3 := of_decide_eq_true k7
              subst z1 z2 z3
              have z4 := isNone_ok k2
              subst z4
              refine ⟨_, oc, od, n10, n11, n14, osl, cc, ccl, ccd, ccs, cd, kcl, kcd, kcs, vs, tf, n9, n12, ?_, q, k1, q2, q3, q4⟩
              rw [hn]
            · cases k7
          · cases k7
        · cases k6
      · cases k3
    | _ => cases c2
theorem DefE.fun_ {K : PySem.W.Frag} {d : DefE} (hs : d.sup = none) (e : fnA K d = d.val) (c : d.ok K = true) : ∃ fd, C8.Fun K d.name d.qual d.st (d.ad K) fd ∧ fd.defaults = .none ∧ PySem.W.keepIn K (.ref (d.ad K)) = true := by
  obtain ⟨kp, c2⟩ := ba c
  unfold fnA at e
  cases q : K.lookup (d.ad K) with
  | none =>
    rw [q] at c2
    cases c2
  | some o =>
    obtain ⟨oc, od, dt, osl⟩ := o
    rw [q] at c2 e
    cases dt with
    | func fd =>
      rw [hs] at c2 e
      obtain ⟨n1, n2, n3, n4, n5, n6, n7, n8, n9, n10, n11, n12, n13, n14, n15⟩ := fd
      have e2 : (some (n1, n2, n3, n4, n5, n6, n7, n15) : FnW) = some (d.name, d.qual, C8.fnArgs d.st, .stmts (C8.fnBody d.st), C8.fnScope d.st, mainGlobals, [], builtinsNs) := e
      simp only [Option.some.injEq, Prod.mk.injEq] at e2
      obtain ⟨h1, h2, h3, h4, h5, h6, h7, h8⟩ := e2
      subst h1 h2 h3 h4 h5 h6 h7 h8
      obtain ⟨k1, k⟩ := ba (show (PySem.W.codeIn K n13 d.qual && (isNone n8 && true)) = true from c2)
      obtain ⟨k2, _⟩ := ba k
      exact ⟨_, ⟨oc, od, n8, n9, n10, n11, n12, n13, n14, osl, rfl, q, k1⟩, isNone_ok k2, kp⟩
    | _ => cases c2
def asX0 (g : Addr → Option Obj) : Nat → List Addr
  | 0 => [mainGlobals, 2]
  | n + 1 => growD g (asX0 g n)
/-- .. and the cells of the functions -/
def asX (g : Addr → Option Obj) (n : Nat) : List Addr := asX0 g n ++ (asX0 g n).flatMap fun a => match g a with
  | some ⟨_, _, .func fd, _⟩ => fd.closure.map (·.2)
  | _ => []
abbrev AlE : Type := Bool × List FnW
def obsE (mo : PySem.W.Frag → Bool) (fn : List DefE) (K : PySem.W.Frag) : AlE := (mo K && fn.all fun d => d.ok K, fn.map fun d => fnA K d)
def valE (fn : List DefE) : AlE := (true, fn.map DefE.val)
def obsEG (n : Nat) (mo : PySem.W.Frag → Bool) (fn : List DefE) (g : Addr → Option Obj) : AlE := obsE mo fn (frG g (asX g n))
def hookE (n : Nat) (mo : PySem.W.Frag → Bool) (fn : List DefE) : PySem.W.Hook where
  α := AlE
  obs := fun s => obsEG n mo fn s.heap.get?
  val := fun _ => valE fn
  says := fun _ h => ∃ K : PySem.W.Frag, K.In h ∧ obsE mo fn K = valE fn
  of := fun _ _ e => ⟨_, frG_in, e⟩
  keeps := fun _ _ _ ⟨K, hK, c⟩ k => ⟨K, PySem.W.Frag.In.keeps hK k, c⟩
theorem obsEG_eq {n : Nat} {mo : PySem.W.Frag → Bool} {fn : List DefE} {g : Addr → Option Obj} {s : Shared} (h : ∀ a, g a = s.heap.get? a) : obsEG n mo fn g = (hookE n mo fn).obs s := by
  have e : g = s.heap.get? := funext h
  rw [e] <;> rfl
section
variable {mo : PySem.W.Frag → Bool} {fn : List DefE} {K : PySem.W.Frag}
theorem saysE_mo (c : obsE mo fn K = valE fn) : mo K = true := (ba (show (mo K && fn.all fun d => d.ok K) = true from congrArg (fun z : AlE => z.1) c)).1
theorem saysE_sup (c : obsE mo fn K = valE fn) (i : Nat) {d : DefE} {cl : Str} (h : fn[i]? = some d := by rfl) (hs : d.sup = some cl := by rfl) (hn : d.name = "__init__" := by rfl) : ∃ fd, SupFun K "/claim/cut.py" (ga K cl) d.qual (C8.fnArgs d.st) (C8.fnBody d.st) (C8.fnScope d.st) (d.ad K) fd := by
  have c2 := (ba (show (mo K && fn.all fun d => d.ok K) = true from congrArg (fun z : AlE => z.1) c)).2
  have e : fn.map (fun d => fnA K d) = fn.map DefE.val := congrArg (fun z : AlE => z.2) c
  have e2 : (fn.map fun d => fnA K d)[i]? = (fn.map DefE.val)[i]? := by rw [e]
  rw [List.getElem?_map, List.getElem?_map, h] at e2
  exact DefE.sup_ hs hn (Option.some.inj e2) (List.all_eq_true.mp c2 d (List.mem_of_getElem? h))
theorem saysE_def (c : obsE mo fn K = valE fn) (i : Nat) {d : DefE} (h : fn[i]? = some d := by rfl) (hsn : d.sup = none := by rfl) : ∃ fd, C8.Fun K d.name d.qual d.st (d.ad K) fd ∧ fd.defaults = .none ∧ PySem.W.keepIn K (.ref (d.ad K)) = true := by
  have c2 := (ba (show (mo K && fn.all fun d => d.ok K) = true from congrArg (fun z : AlE => z.1) c)).2
  have e : fn.map (fun d => fnA K d) = fn.map DefE.val := congrArg (fun z : AlE => z.2) c
  have e2 : (fn.map fun d => fnA K d)[i]? = (fn.map DefE.val)[i]? := by rw [e]
  rw [List.getElem?_map, List.getElem?_map, h] at e2
  exact DefE.fun_ hsn (Option.some.inj e2) (List.all_eq_true.mp c2 d (List.mem_of_getElem? h))
end
/-! ### what is read off -/
/-- the Bool facts: plain ones by place, and one more -/
def moF (fa : List Fa) (ex : PySem.W.Frag → List Bool) (K : PySem.W.Frag) : Bool := (fa.all fun f => f.ok K) && (ex K).all id
theorem moF_fact {fa : List Fa} {ex : PySem.W.Frag → List Bool} {K : PySem.W.Frag} (h : moF fa ex K = true) (i : Nat) {f : Fa} (e : fa[i]? = some f := by rfl) : f.ok K = true :=
  List.all_eq_true.mp (ba h).1 f (List.mem_of_getElem? e)
theorem moF_ex {fa : List Fa} {ex : PySem.W.Frag → List Bool} {K : PySem.W.Frag} (h : moF fa ex K = true) (i : Nat) {b : Bool} (e : (ex K)[i]? = some b := by rfl) : b = true :=
  List.all_eq_true.mp (ba h).2 b (List.mem_of_getElem? e)
section
variable {K : PySem.W.Frag} {h : Heap} {mg : Str → Option Value}
abbrev BindQ (x qual : Str) (st : Stmt) (ps : List Str) : Prop := ∀ (kV doc pm : Value) (an : Option Addr) (cdv ct : Value) (us : List Value), us.length = ps.length → bindArgs (PySem.W.fnOf x qual (C8.fnArgs st) (C8.fnBody st) (C8.fnScope st) .none kV doc pm an cdv ct) ⟨us, []⟩ = pure (ps.zip us)
theorem defOf_ (X : K.In h) (G : h.Ns mainGlobals mg) {x : Str} {st : Stmt} {ps : List Str} (c1 : (Fa.glo x).ok K = true) (c2 : ∃ fd, C8.Fun K (dG x st).name (dG x st).qual (dG x st).st ((dG x st).ad K) fd ∧ fd.defaults = .none ∧ PySem.W.keepIn K (.ref ((dG x st).ad K)) = true) (hb : BindQ x x st ps) : DefOf K mg x st ps := by
  obtain ⟨fd, F, df, kp⟩ := c2
  exact ⟨_, fd, ⟨F, glo_ok X G c1, kp⟩, C8.Fun.binds F df hb⟩
theorem metOf_ {c m q : Str} {st : Stmt} {ps : List Str} (c1 : (Fa.meth c m).ok K = true) (c2 : ∃ fd, C8.Fun K (dM c m q st).name (dM c m q st).qual (dM c m q st).st ((dM c m q st).ad K) fd ∧ fd.defaults = .none ∧ PySem.W.keepIn K (.ref ((dM c m q st).ad K)) = true) (hb : BindQ m q st ps) : MetOf K (ga K c) m q st ps := by
  obtain ⟨fd, F, df, kp⟩ := c2
  exact ⟨_, fd, meth_ok c1, F, C8.Fun.binds F df hb⟩
theorem makOf_ {c q : Str} {st : Stmt} {ps : List Str} (c1 : (Fa.mkr c).ok K = true) (c2 : ∃ fd, C8.Fun K (dM c "__init__" q st).name (dM c "__init__" q st).qual (dM c "__init__" q st).st ((dM c "__init__" q st).ad K) fd ∧ fd.defaults = .none ∧ PySem.W.keepIn K (.ref ((dM c "__init__" q st).ad K)) = true) (hb : BindQ "__init__" q st ps) : MakOf K (ga K c) q st ps := by
  obtain ⟨fd, F, df, kp⟩ := c2
  exact ⟨_, fd, mkr_ok c1, F, C8.Fun.binds F df hb⟩
/-- a class is read as its type reads it -/
def crdB (K : PySem.W.Frag) (c : Str) : Bool := PySem.W.readsIn K (ga K c) (.type "type") && eqO (PySem.W.specialIn K (.ref (ga K c)) "__getattribute__") (some (some (.builtin "type.__getattribute__")))
theorem crd_ok {c : Str} (e : crdB K c = true) : ClX.CRead K (ga K c) (.type "type") := by
  obtain ⟨e1, e2⟩ := ba e
  exact ⟨e1, eqO_ok e2⟩
/-- a classmethod of a class -/
def clmB (K : PySem.W.Frag) (c m : Str) : Bool := (match PySem.W.findCls K (.ref (ga K c)) (.type "type") m with
  | some (.get (.builtin s) (.ref p) .none (.ref d)) => decide (s = "classmethod.__get__") && (decide (p = ma K (ga K c) m) && decide (d = ga K c))
  | _ => false) && ((match PySem.W.recIn K (ma K (ga K c) m) "classmethod" with
  | some (.ref _ :: _) => true
  | _ => false) && PySem.W.fnIn K (cmF K c m))
theorem clm_ok {c m : Str} (e : clmB K c m = true) : ClX.CMet K (ga K c) (.type "type") m (ma K (ga K c) m) (cmF K c m) := by
  obtain ⟨e1, e⟩ := ba e
  obtain ⟨e2, e3⟩ := ba e
  refine ⟨?_, ?_, e3⟩
  · split at e1
    · rename_i s p d q
      obtain ⟨h1, h⟩ := ba e1
      obtain ⟨h2, h3⟩ := ba h
      rw [q, of_decide_eq_true h1, of_decide_eq_true h2, of_decide_eq_true h3]
    · cases e1
  · unfold cmF
    split at e2
    · rename_i g rest q
      rw [q]
      exact ⟨rest, rfl⟩
    · cases e2
theorem clmOf_ {c m q : Str} {st : Stmt} {ps : List Str} (c0 : crdB K c = true) (c1 : clmB K c m = true) (c2 : ∃ fd, C8.Fun K (dC c m q st).name (dC c m q st).qual (dC c m q st).st ((dC c m q st).ad K) fd ∧ fd.defaults = .none ∧ PySem.W.keepIn K (.ref ((dC c m q st).ad K)) = true) (hb : BindQ m q st ps) : ClmOf K (ga K c) m q st ps := by
  obtain ⟨fd, F, df, kp⟩ := c2
  exact ⟨_, _, _, fd, crd_ok c0, clm_ok c1, F, C8.Fun.binds F df hb⟩
/-! ### own exception classes -/
def oexB (K : PySem.W.Frag) (C : Addr) : Bool := (match K.lookup C with
  | some ⟨.type "type", _, .cls cd, sl⟩ => (match cd.mro, sl.toList with
    | .ref C' :: bm, [_, _, _, _, some (.builtin n), _] => decide (C' = C) && (decide (n = "ValueError.__new__") && (!cd.hasDel && (cd.hasDict && PySem.HandSPX.refsVE bm)))
    | _, _ => false)
  | _ => false) && (eqO (PySem.W.findIn K (.ref C) "__setattr__") (some (some (.builtin "object.__setattr__"))) && (decide (PySem.W.subIn K (.ref C) (.type "BaseException") = some true) && (decide (PySem.W.typeIn K (.ref C) = some (.type "type")) && PySem.W.keepIn K (.ref C))))
theorem oex_ok {C : Addr} (q : oexB K C = true) : OexC K C := by
  obtain ⟨q, q2⟩ := ba q
  obtain ⟨q3, q2⟩ := ba q2
  obtain ⟨q4, q2⟩ := ba q2
  obtain ⟨q5, q6⟩ := ba q2
  refine ⟨?_, eqO_ok q3, of_decide_eq_true q4, of_decide_eq_true q5, q6⟩
  split at q
  · rename_i dd cd sl ho
    split at q
    · rename_i C' bm k0 k1 k2 k3 n k5 hm hs
      simp only [Bool.and_eq_true, decide_eq_true_eq, Bool.not_eq_true'] at q
      obtain ⟨rfl, rfl, hdel, hdict, ht⟩ := q
      obtain ⟨nm, bs, mro, ns, qn, hd, sn, sub, ab, col, del⟩ := cd
      dsimp only at hm hdel hdict
      subst hm hdel hdict
      have hsl : sl = #[k0, k1, k2, k3, some (.builtin "ValueError.__new__"), k5] := by
        obtain ⟨l⟩ := sl
        simp only at hs
        rw [hs]
      subst hsl
      exact ⟨nm, qn, ns, bs, bm, sn, sub, ab, col, dd, k0, k1, k2, k3, k5, ho, ht⟩
    · cases q
  · cases q
def supB (K : PySem.W.Frag) (c : Str) : Bool := oexB K (ga K c) && (xfB K (ga K c) && (eqO (PySem.W.findIn K (.ref (ga K c)) "__class__") (some (some (.builtin "object.__class__"))) && (eqO (PySem.W.specialIn K (.builtin "object.__class__") "__get__") (some (some (.builtin "getset_descriptor.__get__"))) &&
  (decide (PySem.W.takesIn K (.builtin "object.__class__") = some true) && (decide (PySem.W.mroIn K (ga K c) (.type "object") = some true) && (decide (PySem.W.mroIn K (ga K c) (.ref (ga K c)) = some true) && (eqO (PySem.W.ks_superIn K (ga K c) (ga K c) "__init__") (some (some (.builtin "ValueError.__init__"))) &&
  (decide (PySem.W.subIn K (.ref (ga K c)) (.type "ValueError") = some true) && eqO (PySem.W.nsIn K cStatics "thirdparty.any") (some none)))))))))
theorem sup_ok {c : Str} (q : supB K c = true) : SupC K (ga K c) := by
  obtain ⟨q1, q⟩ := ba q
  obtain ⟨q2, q⟩ := ba q
  obtain ⟨q3, q⟩ := ba q
  obtain ⟨q4, q⟩ := ba q
  obtain ⟨q5, q⟩ := ba q
  obtain ⟨q6, q⟩ := ba q
  obtain ⟨q7, q⟩ := ba q
  obtain ⟨q8, q⟩ := ba q
  obtain ⟨q9, q10⟩ := ba q
  have x := xfB_ok q2
  exact ⟨oex_ok q1, x, ⟨x.ga, x.gg, x.exC, x.hdC, eqO_ok q3, eqO_ok q4, of_decide_eq_true q5, of_decide_eq_true q6⟩, of_decide_eq_true q7, eqO_ok q8, of_decide_eq_true q9, eqO_ok q10⟩
abbrev BindS (qual : Str) (st : Stmt) (ps : List Str) : Prop := ∀ (kV doc pm : Value) (an : Option Addr) (cdv ct : Value) (cc : Addr) (us : List Value), us.length = ps.length → bindArgs (PySem.W.fnX "__init__" qual (C8.fnArgs st) (C8.fnBody st) (C8.fnScope st) [("__class__", cc)] .none kV doc pm an cdv ct) ⟨us, []⟩ = pure (ps.zip us)
def initB (K : PySem.W.Frag) (c : Str) : Bool := eqO (PySem.W.findIn K (.ref (ga K c)) "__init__") (some (some (.ref (ma K (ga K c) "__init__")))) && decide (PySem.W.typeIn K (.ref (ma K (ga K c) "__init__")) = some (.type "function"))
theorem supOf_ (X : K.In h) (G : h.Ns mainGlobals mg) {c q : Str} {st : Stmt} {ps : List Str} (c0 : supB K c = true) (c1 : (Fa.glo c).ok K = true) (ci : initB K c = true) (c2 : ∃ fd, SupFun K "/claim/cut.py" (ga K c) (dS c q st).qual (C8.fnArgs (dS c q st).st) (C8.fnBody (dS c q st).st) (C8.fnScope (dS c q st).st) ((dS c q st).ad K) fd) (hb : BindS q st ps) : SupOf K mg c (ga K c) q st ps := by
  obtain ⟨fd, F⟩ := c2
  obtain ⟨i1, i2⟩ := ba ci
  refine ⟨sup_ok c0, glo_ok X G c1, _, fd, eqO_ok i1, of_decide_eq_true i2, F, ?_⟩
  obtain ⟨oc, od, doc, pm, ct, osl, cc, ccl, ccd, ccs, cd, kcl, kcd, kcs, vss, tf, kV, an, rfl, _⟩ := F.ex
  exact .all fun us hl => hb kV doc pm an (.ref cd) ct cc us hl
theorem strG (X : K.In h) (G : h.Ns mainGlobals mg) {x z : Str} (c : (Fa.str x z).ok K = true) : ∃ u, mg x = some u ∧ L2.RelV (.str z) u := by
  obtain ⟨t, e⟩ := str_ok X G c
  exact ⟨_, e, t, rfl⟩
theorem intG (X : K.In h) (G : h.Ns mainGlobals mg) {x : Str} {i : Int} (c : (Fa.int x i).ok K = true) : ∃ u, mg x = some u ∧ L2.RelV (.int i) u := by
  obtain ⟨t, e⟩ := int_ok X G c
  exact ⟨_, e, t, rfl⟩
end
end Od
end
section
set_option Elab.async false
set_option linter.all false
set_option maxRecDepth 100000
set_option maxHeartbeats 2000000
set_option autoImplicit false
/-! the head of a law whose defs make functions: their code objects' tables are tracked from the start; the law's own frame knows that no text of an object is being made -/
namespace Od
open PySem PySem.Spec PyProof.Rows L2 C8 LamX
/-! ### a def that is called where no text of an object is being made -/
structure FnG (P : Program) (w : World) (K : PySem.W.Frag) (mg : Str → Option Value) (base : Heap) (k : Nat) (f : Addr) (fd : FuncData) (ps : List Str) (sp : Sp) : Prop where
  len : ∀ vs H Q E, sp vs H Q E → vs.length = ps.length
  run : ∀ (A : Around) (outer : List Env) (s : Shared) (H : Hp) (args : Args) (us : List Value) (vs : List V) (Q : VK) (E : XK), A.guards = some [] → Room k A → Env0 P w K mg base A outer s H → BindsTo s fd args (ps.zip us) → Vals vs us → sp vs H Q E →
    codeAny (model P w) A (.call (.ref f) args) (CR C8.CX0 outer P w H s Q E) s
theorem guards_deeper (A : Around) (env : Env) : (A.deeper env).guards = A.guards := by first | rfl | (cases A; simp [Around.deeper])
section
variable {P : Program} {w : World} {K : PySem.W.Frag} {mg : Str → Option Value} {base : Heap}
theorem FnG.of {k : Nat} {f : Addr} {fd : FuncData} {ps : List Str} {sp : Sp} (F : FnOk P w K mg base C8.CX0 k f fd ps sp) : FnG P w K mg base k f fd ps sp :=
  ⟨F.len, fun A outer s H args us vs Q E _ => F.run A outer s H args us vs Q E⟩
theorem fnG {x qual : Str} {st : Stmt} {f : Addr} {fd : FuncData} {N ps : List Str} {k : Nat} {sp : Sp} (F : C8.Fun K x qual st f fd) (S : FnScope N ps (fnScope st)) (len : ∀ vs H Q E, sp vs H Q E → vs.length = ps.length)
    (hbody : ∀ (cdv : Value) (A : Around) (outer : List Env) (s : Shared) (H : Hp) (vs : List V) (Q : VK) (E : XK), (A.deeper (envOfC qual (fnScope st) s.heap.objs.size f cdv)).guards = some [] → Room k (A.deeper (envOfC qual (fnScope st) s.heap.objs.size f cdv)) → sp vs H Q E →
      ∃ t, PSs (cxOf C8.CX0 P w K mg base N qual (fnScope st) f cdv A outer s H E).nox (fnBody st) t ∧ t { nx := fun _ H' => Q .non H', rt := Q } (start N vs) H) : FnG P w K mg base (k + 1) f fd ps sp := by
  obtain ⟨oc, od, dV, kV, doc, pm, an, cdv, ct, osl, rfl, lk, hcd⟩ := F.ex
  refine ⟨len, fun A outer s H args us vs Q E hgd hr e0 hb r hsp => ?_⟩
  have hl := len _ _ _ _ hsp
  have KX : K.In s.heap := e0.mod.kin.keeps fun b o e => (e0.bs b o e).1
  have lim : s.heap.NoLimit := e0.mod.nolimit.keeps fun b o e => (e0.bs b o e).1
  have hkind : ∀ y ∈ ps.zip us, (fnScope st).names.lookup y.1 = some .local ∨ ((fnScope st).names.lookup y.1 = some .cell ∧ ((cellsFrom (s.heap.objs.size + 1) (fnScope st).names []).lookup y.1).isSome = true) := fun ⟨n, v⟩ hy => by
    rcases S.par n (List.of_mem_zip hy).1 with q | q
    · exact .inl q
    · exact .inr ⟨q, PySem.W.cellsFrom_some _ _ _ (.inl q)⟩
  refine codeAny_call_function hr.depth (KX _ _ lk) rfl S.co S.gen rfl (PySem.W.codeRec_of KX hcd) (hb _ _ _ _ ?_)
  refine wpAny_newFunctionEnv_cells S.kind hkind fun env he s1 x => ?_
  subst he
  refine ⟨lim.keeps x.toInCall.keep, codeAny_func ?_⟩
  obtain ⟨t, ht, hq⟩ := hbody cdv A outer s H vs Q E ((guards_deeper _ _).trans hgd) (hr.deeper _) hsp
  have I : Inv (cxOf C8.CX0 P w K mg base N qual (fnScope st) f cdv A outer s H E) [] (start N vs) H s1 := inv_start S hr.hd e0 hl r x
  refine wpAny_mono (ht.nox.run [] s1 (start N vs) H _ I hq) (fun fl s' hs => ?_) fun e s' hs => hs
  have fin : ∀ {σ' : L2.St} {H' : Hp} {v : V} {u : Value}, Inv (cxOf C8.CX0 P w K mg base N qual (fnScope st) f cdv A outer s H E) [] σ' H' s' → L2.RelV v u → Q v H' → CE outer P w H s Q u s' :=
    fun {σ' H' v u} J rv q => ⟨v, H', J.os, J.bare, J.base, J.hok, rv, q⟩
  cases fl with
  | ret u =>
    obtain ⟨v, σ', H', J, rv, q⟩ := hs
    exact fin J rv q
  | next =>
    obtain ⟨σ', H', J, q⟩ := hs
    exact fin (v := V.non) (u := Value.none) J rfl q
  | brk =>
    obtain ⟨_, _, _, q⟩ := hs
    exact q.elim
  | cont =>
    obtain ⟨_, _, _, q⟩ := hs
    exact q.elim
end
/-! ### repr of lists and tuples of numbers, texts, truth values -/
section
structure rRepr (K : PySem.W.Frag) (xs : List V) (H : Hp) (Q : VK) : Prop where
  ex : ∃ a d, xs = [.ref a] ∧ Dp K H (.ref a) d ∧ d.showable = true ∧ d.hasDict = false ∧ d.depth ≤ 60 ∧ d.shown.length ≤ sizeLine ∧ Q (.str d.shown) H
theorem bools_show : ∀ bs : List Bool, PyData.showableAll (bs.map PyData.bool) = true ∧ PyData.hasDictAll (bs.map PyData.bool) = false ∧ PyData.depthAll (bs.map PyData.bool) = 0 ∧ ((PyData.shownAll (bs.map PyData.bool)).map (·.length)).sum ≤ 5 * bs.length ∧ (PyData.shownAll (bs.map PyData.bool)).length = bs.length
  | [] => ⟨rfl, rfl, rfl, by simp [PyData.shownAll], by simp [PyData.shownAll]⟩
  | b :: bs => by
    obtain ⟨h1, h2, h3, h4, h5⟩ := bools_show bs
    have h6 : (PyData.shown (.bool b)).length ≤ 5 := by cases b <;> decide +kernel
    refine ⟨by simp [PyData.showableAll, PyData.showable, h1], by simp [PyData.hasDictAll, PyData.hasDict, h2], by simp [PyData.depthAll, PyData.depth, h3], ?_, by simp [PyData.shownAll, h5]⟩
    simp only [List.map_cons, PyData.shownAll, List.sum_cons, List.length_cons]
    omega
theorem dp_bools {K : PySem.W.Frag} {H : Hp} : ∀ bs : List Bool, DpAll K H (bs.map V.bl) (bs.map PyData.bool)
  | [] => .nil
  | b :: bs => .cons (.bl b) (dp_bools bs)
/-- the text of a list of truth values -/
def showB (bs : List Bool) : Str := PyData.shown (.list (bs.map PyData.bool))
theorem repr_bools {K : PySem.W.Frag} {H : Hp} {Q : VK} {a : Addr} (bs : List Bool) (h : H a = some (.lst (bs.map V.bl))) (hl : bs.length ≤ 1000) (q : Q (.str (showB bs)) H) : rRepr K [.ref a] H Q := by
  obtain ⟨h1, h2, h3, h4, h5⟩ := bools_show bs
  refine ⟨⟨a, .list (bs.map PyData.bool), rfl, .lst (.of h) (dp_bools bs), by rw [PyData.showable]; exact h1, by rw [PyData.hasDict]; exact h2, by rw [PyData.depth, h3]; decide, ?_, q⟩⟩
  rw [PyData.shown]
  have := listText_len_le (PyData.shownAll (bs.map PyData.bool))
  rw [h5] at this
  exact le_szl _ (by omega)
theorem call_reprD {X : Cx} (gd : X.A.guards = some []) (hu : X.A.units + 64 < cLine) : CallR X (.builtin "repr") (rRepr X.K) := by
  intro pins s σ H xs us Q I r h
  obtain ⟨a, d, rfl, hd, sh, nd, dp, sz, q⟩ := h.ex
  obtain ⟨u, rfl, rv⟩ := vals1 r
  obtain rfl : u = Value.ref a := rv
  obtain ⟨as, rd⟩ := Dp.reads I d _ _ hd rfl
  exact repr_of_reads' rd sh (fun z => by rw [nd] at z; cases z) gd (by omega) (fun _ _ e => e) (fun h' u tk k => ⟨.str _, H, I.kept k, ⟨_, rfl⟩, q⟩) sz
end
/-! ### the law's call -/
def hpS (a : Addr) (o : Obj) (xs : List V) (T : List Addr) : Hp := fun b => if b = a then some (.frz o (.lst xs)) else if b ∈ T then some (.tbl #[]) else none
section
variable {a b : Addr} {o : Obj} {xs : List V} {T : List Addr}
theorem hpS_a : hpS a o xs T a = some (.frz o (.lst xs)) := if_pos rfl
theorem hpS_T (h : b ≠ a) (hT : b ∈ T) : hpS a o xs T b = some (.tbl #[]) := (if_neg h).trans (if_pos hT)
theorem hpS_no (h : b ≠ a) (hT : b ∉ T) : hpS a o xs T b = none := (if_neg h).trans (if_neg hT)
theorem hpS_none (h : hpS a o xs T b = none) : b ≠ a ∧ b ∉ T := by
  refine ⟨fun e => ?_, fun e => ?_⟩
  · rw [e, hpS_a] at h; cases h
  · by_cases c : b = a
    · rw [c, hpS_a] at h; cases h
    · rw [hpS_T c e] at h; cases h
theorem hpS_some {u : HO} (h : hpS a o xs T b = some u) : (b = a ∧ u = .frz o (.lst xs)) ∨ (b ≠ a ∧ b ∈ T ∧ u = .tbl #[]) := by
  by_cases c : b = a
  · rw [c, hpS_a] at h; exact .inl ⟨c, (Option.some.inj h).symm⟩
  · by_cases d : b ∈ T
    · rw [hpS_T c d] at h; exact .inr ⟨c, d, (Option.some.inj h).symm⟩
    · rw [hpS_no c d] at h; cases h
end
/-- no list, no table among what is known of the module -/
def NoLT (K : PySem.W.Frag) : Prop := ∀ b o, K.lookup b = some o → ¬ (o.cls = .none ∧ o.data = .fields #[]) ∧ o.cls ≠ .type "list"
theorem law_endG {P : Program} {w : World} {K : PySem.W.Frag} {mg mb : Str → Option Value} {k : Nat} {fa a : Addr} {cs : List (Addr × Addr)} {fd : FuncData} {x : Str} {sp : Sp} {s₁ : Shared} {vs : List Value} {ns : List Int}
    (KX : K.In s₁.heap) (nlt : NoLT K) (hns : s₁.heap.Ns mainGlobals mg) (hb : s₁.heap.Ns builtinsNs mb) (hbb : ∀ x : Str, x ≠ "__name__" → mb x = bootBuiltins x) (hlim : s₁.heap.NoLimit) (hg : s₁.gens = #[])
    (hT : ∀ p ∈ cs, s₁.heap.get? p.2 = some { cls := .none, data := .fields #[] }) (C : ∀ p ∈ cs, PySem.W.CodeHd s₁.heap p.1 p.2)
    (hbm : ∃ (bm : Addr) (ob : Obj), mg "__builtins__" = some (.ref bm) ∧ bm ≠ builtinsNs ∧ s₁.heap.get? bm = some ob ∧ ob.cls = .type "module" ∧ ob.dict = some builtinsNs ∧ ob.data = .plain)
    (ha : s₁.heap.get? a = some { cls := .type "list", data := .seq vs.toArray }) (hi : IntsAre vs ns) (hl : ns.length ≤ sizeLine) (hr : Room k callerA)
    (F : ∀ base : Heap, K.In base → base.Ns mainGlobals mg → (∀ p ∈ cs, TabB base mg p.1 p.2) → FnG P w K mg base k fa fd [x] sp) (hbind : ∀ (s : Shared) (u : Value), BindsTo s fd ⟨[u], []⟩ [(x, u)])
    (hsp : ∀ H : Hp, (∀ p ∈ cs, H p.2 = some (.tbl #[])) → SqL K H a (ns.map V.int) → sp [.ref a] H (fun v _ => v = .bl true) fun _ _ _ => False) :
    codeAny (model P w) callerA (.call (.ref fa) ⟨[.ref a], []⟩) (fun r s' => r = .ok (.ret (.bool true)) ∧ OldK s₁.heap s'.heap ∧ s'.os = s₁.os ∧ AllBare s'.gens) s₁ := by
  have rv := vals_ints hi
  obtain ⟨T, hTd⟩ : ∃ T : List Addr, T = cs.map (·.2) := ⟨_, rfl⟩
  have tT : ∀ b ∈ T, s₁.heap.get? b = some { cls := .none, data := .fields #[] } := fun b hb => by
    rw [hTd] at hb
    obtain ⟨p, hp, e⟩ := List.mem_map.mp hb
    rw [← e]
    exact hT p hp
  have mT : ∀ p ∈ cs, p.2 ∈ T := fun p hp => by rw [hTd]; exact List.mem_map.mpr ⟨p, hp, rfl⟩
  have naT : a ∉ T := fun z => by
    have e := (tT a z).symm.trans ha
    have e2 : (Value.none) = Value.type "list" := congrArg Obj.cls (Option.some.inj e)
    cases e2
  have nTa : ∀ b ∈ T, b ≠ a := fun b hb e => naT (e ▸ hb)
  obtain ⟨H, hH⟩ : ∃ H : Hp, H = hpS a { cls := .type "list", data := .seq vs.toArray } (ns.map V.int) T := ⟨_, rfl⟩
  have hAt : ∀ p ∈ cs, H p.2 = some (.tbl #[]) := fun p hp => by rw [hH]; exact hpS_T (nTa _ (mT p hp)) (mT p hp)
  -- what is no list and no table is not tracked
  have un_ : ∀ b o, s₁.heap.get? b = some o → ¬ (o.cls = .none ∧ o.data = .fields #[]) → o.cls ≠ .type "list" → H b = none := fun b o e n1 n2 => by
    rw [hH]
    refine hpS_no (fun z => ?_) fun z => ?_
    · rw [z, ha] at e; cases e; exact n2 rfl
    · rw [tT b z] at e; cases e; exact n1 ⟨rfl, rfl⟩
  have un_d : ∀ {b : Addr} {o : Obj} {es : Array DictEntry} {ep : Nat}, s₁.heap.get? b = some o → o.data = .dict es ep → H b = none := fun {b o es ep} e d => by
    rw [hH]
    refine hpS_no (fun z => ?_) fun z => ?_
    · rw [z, ha] at e; cases e; cases d
    · rw [tT b z] at e; cases e; cases d
  have nsB : ∀ {b : Addr} {m : Str → Option Value}, s₁.heap.Ns b m → (hidT s₁.heap H).Ns b m := fun {b m} ⟨o, es, ep, e, d, r⟩ => ⟨o, es, ep, hidT_get e (un_d e d), d, r⟩
  have hKb : K.In (hidT s₁.heap H) := fun b o e => hidT_get (KX b o e) (un_ b o (KX b o e) (nlt b o e).1 (nlt b o e).2)
  have hok : HOk P w H s₁.heap := fun b u e => by
    rw [hH] at e
    rcases hpS_some e with ⟨rfl, rfl⟩ | ⟨_, hb, rfl⟩
    · exact ⟨ha, by rw [List.length_map]; exact hl, vs, _, rv, ha⟩
    · exact tT b hb
  have hM : L2.Mod K mg (hidT s₁.heap H) := ⟨hKb, nsB hns, ⟨mb, nsB hb, hbb⟩, let ⟨mc, h1, h2⟩ := hlim; ⟨mc, nsB h1, h2⟩⟩
  have e0 : Env0 P w K mg (hidT s₁.heap H) callerA [] s₁ H := ⟨rfl, hM, fun b o e => of_hidT e, Nat.le_of_eq (hidT_size _ _), trivial, fun b hb => absurd (show b ∈ ([] : List Addr) from hb) (by simp), hok, .of_eq hg⟩
  have TB : ∀ p ∈ cs, TabB (hidT s₁.heap H) mg p.1 p.2 := fun p hp => by
    refine ⟨?_, ?_, fun z => ?_⟩
    · obtain ⟨o, us, file, tf, flags, tg, inF, text, tt, e1, r1, rest⟩ := C p hp
      exact ⟨o, us, file, tf, flags, tg, inF, text, tt, hidT_get e1 (un_ _ _ e1 (by rw [r1]; exact fun z => nomatch z.1) (by rw [r1]; exact fun z => by injection z with z; exact absurd z (by decide))), r1, rest⟩
    · obtain ⟨bm, ob, b1, b2, b3, b4, b5, b6⟩ := hbm
      have q := un_ _ _ b3 (by rw [b4]; exact fun z => nomatch z.1) (by rw [b4]; exact fun z => by injection z with z; exact absurd z (by decide))
      refine ⟨bm, ob, b1, b2, fun z => ?_, fun z => ?_, hidT_get b3 q, b4, b5, b6⟩
      · obtain ⟨o, es, ep, e, hd, _⟩ := hns
        rw [z, e] at b3
        cases b3
        rw [hd] at b6
        cases b6
      · rw [z, hAt p hp] at q
        cases q
    · obtain ⟨o, es, ep, e, hd, _⟩ := hns
      rw [z, hT p hp] at e
      cases e
      cases hd
  have hS : SqL K H a (ns.map V.int) := .inl (.inr ⟨_, by rw [hH]; exact hpS_a⟩)
  refine codeAny_mono ((F _ hKb (nsB hns) TB).run callerA [] s₁ H ⟨[.ref a], []⟩ [.ref a] [.ref a] _ _ rfl hr e0 (hbind s₁ (.ref a)) (.cons rfl .nil) (hsp H hAt hS)) fun r s' h => ?_
  cases r with
  | error e => exact h.elim
  | ok fl =>
    cases fl with
    | next => exact False.elim h
    | brk => exact False.elim h
    | cont => exact False.elim h
    | ret u =>
      obtain ⟨v, H', os, bare, un, hok', r', q⟩ := h
      have q' : v = .bl true := q
      subst q'
      obtain rfl : u = Value.bool true := r'
      have grown : ∀ p ∈ cs, ∃ more : Array Value, s'.heap.get? p.2 = some { cls := .none, data := .fields more } := fun p hp => by
        obtain ⟨more, z⟩ := un.tbls p.2 #[] (hAt p hp)
        exact ⟨_, hok' p.2 _ z⟩
      have key : ∀ b o, b ∉ T → s₁.heap.get? b = some o → s'.heap.get? b = some o := fun b o nb e => by
        by_cases c : b = a
        · have z : H b = some (.frz { cls := .type "list", data := .seq vs.toArray } (.lst (ns.map V.int))) := by rw [hH, c]; exact hpS_a
          obtain ⟨e2, _⟩ := hok' b _ (un.frzs b _ _ z)
          rw [c, ha] at e
          cases e
          exact e2
        · exact un.keep b o e (by rw [hH]; exact hpS_no c nb) (fun z => nomatch z) (fun z => nomatch z)
      refine ⟨rfl, ⟨fun b o e => ?_, fun b o e => ?_⟩, os, bare⟩
      · by_cases hb : b ∈ T
        · rw [hTd] at hb
          obtain ⟨p, hp, ep⟩ := List.mem_map.mp hb
          obtain ⟨more, hm⟩ := grown p hp
          rw [← ep] at e ⊢
          rw [hT p hp] at e
          cases e
          exact .inr (.inl ⟨((C p hp).tab (hT p hp)).isCodeTable, rfl, #[], more, rfl, by rw [Array.empty_append]; exact hm⟩)
        · exact .inl (key b o hb e)
      · by_cases hb : b ∈ T
        · rw [hTd] at hb
          obtain ⟨p, hp, ep⟩ := List.mem_map.mp hb
          obtain ⟨more, hm⟩ := grown p hp
          rw [← ep]
          exact ⟨_, hm⟩
        · exact ⟨o, key b o hb e⟩
/-! ### what is known of the module: no lists, no tables -/
def plainO (o : Obj) : Bool := match o.cls with
  | .none => (match o.data with
    | .fields vs => !vs.isEmpty
    | _ => true)
  | .type t => !decide (t = "list")
  | _ => true
theorem plainO_ok {o : Obj} (h : plainO o = true) : ¬ (o.cls = .none ∧ o.data = .fields #[]) ∧ o.cls ≠ .type "list" := by
  unfold plainO at h
  refine ⟨fun e => ?_, fun e => ?_⟩
  · rw [e.1, e.2] at h
    simp at h
  · rw [e] at h
    simp at h
def frT (g : Addr → Option Obj) (as : List Addr) : PySem.W.Frag := as.filterMap fun a => match g a with
  | some o => if plainO o = true then some (a, o) else none
  | none => none
theorem look_mem {l : PySem.W.Frag} {a : Addr} {o : Obj} (h : l.lookup a = some o) : (a, o) ∈ l := by
  induction l with
  | nil => cases h
  | cons x r ih =>
    obtain ⟨b, u⟩ := x
    rw [List.lookup_cons] at h
    split at h
    · rename_i e
      have e := eq_of_beq e
      cases h
      rw [e]
      exact List.mem_cons_self
    · exact List.mem_cons_of_mem _ (ih h)
theorem frT_mem {g : Addr → Option Obj} {as : List Addr} {a : Addr} {o : Obj} (h : (frT g as).lookup a = some o) : g a = some o ∧ plainO o = true := by
  have hm := look_mem h
  obtain ⟨b, _, e⟩ := List.mem_filterMap.mp hm
  cases q : g b with
  | none => rw [q] at e; cases e
  | some u =>
    rw [q] at e
    have e : (if plainO u = true then some (b, u) else none) = some (a, o) := e
    by_cases c : plainO u = true
    · rw [if_pos c] at e
      cases e
      exact ⟨q, c⟩
    · rw [if_neg c] at e
      cases e
theorem frT_in {h : Heap} {as : List Addr} : (frT h.get? as).In h := fun _ _ e => (frT_mem e).1
theorem frT_no {g : Addr → Option Obj} {as : List Addr} : NoLT (frT g as) := fun _ _ e => plainO_ok (frT_mem e).2
def emptyTab : Option Obj → Bool
  | some ⟨.none, .none, .fields vs, sl⟩ => vs.isEmpty && sl.isEmpty
  | _ => false
theorem emptyTab_ok {o : Option Obj} (h : emptyTab o = true) : o = some { cls := .none, data := .fields #[] } := by
  unfold emptyTab at h
  split at h
  · obtain ⟨h1, h2⟩ := He.ba h
    have e1 := Array.isEmpty_iff.mp h1
    have e2 := Array.isEmpty_iff.mp h2
    subst e1 e2
    rfl
  · cases h
/-- the def x has a code object and a table, empty still -/
def tabB (g : Addr → Option Obj) (K : PySem.W.Frag) (x : Str) : Bool := match PySem.W.tabIn K x with
  | some (c, P) => PySem.W.codeHdIn K c P && emptyTab (g P)
  | none => false
def TabO (K : PySem.W.Frag) (h : Heap) (x : Str) (p : Addr × Addr) : Prop := PySem.W.tabIn K x = some p ∧ PySem.W.CodeHd h p.1 p.2 ∧ h.get? p.2 = some { cls := .none, data := .fields #[] }
theorem tabB_ok {K : PySem.W.Frag} {h : Heap} {x : Str} (X : K.In h) (e : tabB h.get? K x = true) : ∃ p, TabO K h x p := by
  unfold tabB at e
  split at e
  · rename_i c P hc
    obtain ⟨e1, e2⟩ := He.ba e
    exact ⟨(c, P), hc, PySem.W.codeHd_of_K X e1, emptyTab_ok e2⟩
  · cases e
/-- two tables are not the same one -/
def tabNe (K : PySem.W.Frag) (x y : Str) : Bool := match PySem.W.tabIn K x, PySem.W.tabIn K y with
  | some p, some q => !decide (p.2 = q.2)
  | _, _ => false
theorem tabNe_ok {K : PySem.W.Frag} {x y : Str} {p q : Addr × Addr} (e : tabNe K x y = true) (hx : PySem.W.tabIn K x = some p) (hy : PySem.W.tabIn K y = some q) : p.2 ≠ q.2 := by
  unfold tabNe at e
  rw [hx, hy] at e
  intro c
  have e : (!decide (p.2 = q.2)) = true := e
  rw [decide_eq_true c] at e
  cases e
theorem hu_of {TT : List NdefX.NTab} {PT : Addr} {nm : Nat → Nat → Str} (nd : (TT.map fun p => p.1).Nodup) (hm : (PT, nm) ∈ TT) : ∀ p ∈ TT, p.1 = PT → p.2 = nm := by
  induction TT with
  | nil => cases hm
  | cons x r ih =>
    rw [List.map_cons, List.nodup_cons] at nd
    intro p hp e
    rcases List.mem_cons.mp hm with h | h
    · subst h
      rcases List.mem_cons.mp hp with rfl | h2
      · rfl
      · exact absurd (List.mem_map.mpr ⟨p, h2, e⟩) nd.1
    · rcases List.mem_cons.mp hp with rfl | h2
      · exact absurd (List.mem_map.mpr ⟨_, h, e.symm⟩) nd.1
      · exact ih nd.2 h p h2 e
abbrev AlT : Type := AlE × Bool
def obsT (mo : PySem.W.Frag → Bool) (fn : List DefE) (ts : List Str) (g : Addr → Option Obj) (K : PySem.W.Frag) : AlT := (obsE mo fn K, ts.all fun x => tabB g K x)
def obsTG (n : Nat) (mo : PySem.W.Frag → Bool) (fn : List DefE) (ts : List Str) (g : Addr → Option Obj) : AlT := obsT mo fn ts g (frT g (asX g n))
def hookT (n : Nat) (mo : PySem.W.Frag → Bool) (fn : List DefE) (ts : List Str) : PySem.W.Hook where
  α := AlT
  obs := fun s => obsTG n mo fn ts s.heap.get?
  val := fun _ => (valE fn, true)
  says := fun _ h => ∃ K : PySem.W.Frag, K.In h ∧ NoLT K ∧ obsE mo fn K = valE fn ∧ ∀ x ∈ ts, ∃ p, TabO K h x p
  of := fun w s e => by
    have e1 : obsE mo fn (frT s.heap.get? (asX s.heap.get? n)) = valE fn := congrArg (fun z : AlT => z.1) e
    have e2 : (ts.all fun x => tabB s.heap.get? (frT s.heap.get? (asX s.heap.get? n)) x) = true := congrArg (fun z : AlT => z.2) e
    exact ⟨_, frT_in, frT_no, e1, fun x hx => tabB_ok frT_in (List.all_eq_true.mp e2 x hx)⟩
  keeps := fun _ _ _ ⟨K, hK, n, c, t⟩ k => ⟨K, PySem.W.Frag.In.keeps hK k, n, c, fun x hx => by
    obtain ⟨p, h1, h2, h3⟩ := t x hx
    exact ⟨p, h1, h2.keeps k, k _ _ h3⟩⟩
theorem obsTG_eq {n : Nat} {mo : PySem.W.Frag → Bool} {fn : List DefE} {ts : List Str} {g : Addr → Option Obj} {s : Shared} (h : ∀ a, g a = s.heap.get? a) : obsTG n mo fn ts g = (hookT n mo fn ts).obs s := by
  have e : g = s.heap.get? := funext h
  rw [e] <;> rfl
theorem walk_ofG {l : PySem.W.OpenLaw} {n k : Nat} {q : Program} {loose : List Str} {XP : (Str → Option Value) → Heap → Prop} {YP : World → Heap → Prop} {d : DefRec} {x : Str}
    (hn : l.most = some n) (hn2 : n ≤ sizeLine) (hdf : d.params.defaults = []) (hr : Room k callerA)
    (F : ∀ (w : World) (mg : Str → Option Value) (fa : Addr) (h : Heap), YP w h → h.Ns mainGlobals mg → mg d.name = some (.ref fa) →
      ∃ (K : PySem.W.Frag) (fd : FuncData) (cs : List (Addr × Addr)) (sp : Sp), K.In h ∧ NoLT K ∧ (∀ p ∈ cs, h.get? p.2 = some { cls := .none, data := .fields #[] }) ∧ (∀ p ∈ cs, PySem.W.CodeHd h p.1 p.2) ∧ (∀ (s : Shared) (u : Value), BindsTo s fd ⟨[u], []⟩ [(x, u)]) ∧
        (∀ (H : Hp) (a : Addr) (ns : List Int), ns.length ≤ n → (∀ p ∈ cs, H p.2 = some (.tbl #[])) → SqL K H a (ns.map V.int) → sp [.ref a] H (fun v _ => v = .bl true) fun _ _ _ => False) ∧
        ∀ base : Heap, K.In base → base.Ns mainGlobals mg → (∀ p ∈ cs, TabB base mg p.1 p.2) → FnG l.prog w K mg base k fa fd [x] sp) :
    PySem.W.WalkO q loose XP YP l.row.toRowW d [] (fun f vs => PySem.call f vs) := by
  refine Att.attach_call hn hdf fun w s₀ s₁ mg mb fa o pm cd doc a vs ns G Y ho hd hcd hmg hobj hints hlen hg => ?_
  obtain ⟨K, fd, cs, sp, KX, nlt, hT, C, hb, hsp, hF⟩ := F w mg fa _ Y G.T.g hmg
  exact law_endG KX nlt G.T.g G.T.b G.T.builtins G.T.nolimit hg hT C G.T.bmain hobj hints (Nat.le_trans hlen hn2) hr hF hb fun H hH hS => hsp H a ns hlen hH hS
end Od
end
section
set_option Elab.async false
set_option linter.all false
set_option maxRecDepth 100000
set_option maxHeartbeats 4000000
set_option autoImplicit false
/-! the law of maps turned -/
namespace Od
open PySem PySem.Spec PyProof.Rows L2 C8 Day LamX Wk
abbrev s_law : Stmt := top 57
abbrev N_law : List Str := ["_law_script", "_law_pen_here", "_law_turn", "_law_plain", "_law_chains", "_law_ways", "_law_made", "_law_other", "_law_names_here", "_law_named", "_law_one", "_law_two", "_law_by", "_law_renamed", "_law_turned", "_law_back", "_law_a", "_law_b", "_law_told"]
abbrev P_law : List Str := ["_law_script"]
theorem sc_law : FnScope N_law P_law (C8.fnScope s_law) := fnScope_by (by decide +kernel)
section
variable {P : Program} {w : World} {K : PySem.W.Frag} {mg : Str → Option Value} {base : Heap}
theorem ifS_no {t : TT} {th tb : TS} {D : Ends} {σ : L2.St} {H : Hp} (ht : ∀ Qt : Bool → Hp → Prop, (∀ H', Le H H' → Qt false H') → t σ H Qt) (hn : ∀ H', Le H H' → tb D σ H') : tSeq (tIfS t th tNext) tb D σ H :=
  ht _ fun H' l => hn H' l
theorem ifS_last {t : TT} {th : TS} {D : Ends} {σ : L2.St} {H : Hp} (ht : ∀ Qt : Bool → Hp → Prop, (∀ H', Le H H' → Qt false H') → t σ H Qt) (hn : ∀ H', Le H H' → D.nx σ H') : tIfS t th tNext D σ H :=
  ht _ fun H' l => hn H' l
theorem pen_ne {H : Hp} {d dl z : Addr} {n : Int} {ob : HO} (p : IsPen H d dl n) (h : H z = some ob) (hn : ∀ kvs, kvs ≠ [] → ob ≠ .dK kvs) : z ≠ d := fun e => by
  obtain ⟨cells, tt, x, e1, _⟩ := p
  rw [e, e1] at h
  cases h
  exact hn _ (by unfold penV; exact List.cons_ne_nil _ _) rfl
theorem WayAt.lp {H H' : Hp} {d : Addr} {v : V} {e : Str × Str × Int} (h : WayAt H v e) (l : LeX d H H') (hd : ∃ kvs, H d = some (.dK kvs)) : WayAt H' v e := by
  obtain ⟨t, e1, h⟩ := h
  obtain ⟨kvs, hd⟩ := hd
  exact ⟨t, e1, l _ _ (fun c => by rw [c, hd] at h; cases h) h⟩
theorem IsPen.dk {H : Hp} {d dl : Addr} {n : Int} (p : IsPen H d dl n) : ∃ kvs, H d = some (.dK kvs) := by
  obtain ⟨cells, tt, x, e1, _⟩ := p
  exact ⟨_, e1⟩
theorem IsMap.lp {C X : Addr} {H H' : Hp} {d p : Addr} {r : Row} {ws : Ways} (h : IsMap C X H p r ws) (l : LeX d H H') (hd : ∃ kvs, H d = some (.dK kvs)) : IsMap C X H' p r ws := by
  obtain ⟨o, dx, pc, pw, dd, h1, h2, ⟨us, h3, h4⟩, kvs, h5, h6⟩ := h
  obtain ⟨kk, hk⟩ := id hd
  refine ⟨o, dx, pc, pw, dd, l _ _ (fun c => by rw [c, hk] at h1; cases h1) h1, l _ _ (fun c => by rw [c, hk] at h2; cases h2) h2, ⟨us, l _ _ (fun c => by rw [c, hk] at h3; cases h3) h3, h4.imp fun v e h => h.lp l hd⟩, kvs, l _ _ (fun c => by rw [c, hk] at h5; cases h5) h5, fun x y h => ?_⟩
  obtain ⟨z, e1, e2⟩ := h6 x y h
  obtain ⟨F, dx2, L, z2, m2, e3⟩ := e2
  exact ⟨z, e1, F, dx2, L, z2, m2, l _ _ (fun c => by rw [c, hk] at e3; cases e3) e3⟩
theorem le_disp {H0 H : Hp} {pg : Addr} {ob ob' : HO} (n : H0 pg = none) (l : Le (upd H0 pg ob) H) : Le H0 (upd H pg ob') := fun z o2 h => by
  have nz : z ≠ pg := fun e => by rw [e, n] at h; cases h
  rw [upd_ne nz]
  exact l _ _ (by rw [upd_ne nz]; exact h)
theorem wy_mono (D : Addr) : ∀ (v : V) (s : Str × Str × Int) (H H' : Hp), LeX D H H' → (∃ acc, H D = some (.lst acc)) → WayAt H v s → WayAt H' v s := fun v s H H' l hD h => by
  obtain ⟨t, e1, h⟩ := h
  obtain ⟨acc, hD⟩ := hD
  exact ⟨t, e1, l _ _ (fun c => by rw [c, hD] at h; cases h) h⟩
def sp_law : Sp := fun vs H Q _ => ∃ (a : Addr) (xs : List Int), vs = [.ref a] ∧ SqL K H a (xs.map V.int) ∧ xs.length ≤ 63 ∧ ∀ H', Q (.bl true) H'
theorem ok_law {C X f : Addr} {fd : FuncData} (T : Txt K mg) (D : DSC K mg C) (DM : DMC K mg X) (F : C8.Fun K "law" "law" s_law f fd) (C__law_pen : Cal P w K mg base 1 "_law_pen" (sp_pen (K := K)) []) (C__law_map : Cal P w K mg base 4 "_law_map" sp_lmap []) (C__law_map_text : Cal P w K mg base 1 "_law_map_text" sp_lmtext [])
    (C__law_shuffled : Cal P w K mg base 2 "_law_shuffled" (sp_shuffled (K := K)) [])
    (M_Map : Mak P w K mg base 13 "Map" X (sp_minit C X) []) (Q_Map_reach : Met P w K mg base 2 X "reach" (sp_reach C X) [])
    (Q_DaySet___eq__ : Met P w K mg base 3 C "__eq__" (sp_eq C) []) (Q_DaySet___neg__ : Met P w K mg base 6 C "__neg__" (sp_neg C) []) :
    FnG P w K mg base 15 f fd P_law (sp_law (K := K)) := by
  refine fnG F sc_law (fun vs H Q E h => by obtain ⟨_, _, rfl, _⟩ := h; rfl) (fun cdv A outer s H vs Q E gd hr h => ?_)
  obtain ⟨a, xs, rfl, hs, hx, qq⟩ := h
  have nd := sc_law.nd
  refine ⟨_, (pss_cons (ps_set (i := 1) nd rfl (Or.inl rfl) (pe_c C__law_pen hr (by decide) rfl (pa_cons (pv 0) pa_nil)))
      (C8.pss_cut (ps_for PassesOwn.never rfl (pi_range1 (by rfl) T.b_range (pa_cons (pe_op op_add pe_int (pe_callB (call_min2 rfl) (by rfl) T.b_min (by decide +kernel) (pa_cons pe_int (pa_cons (pe_callB call_len_seq (by rfl) T.b_len (by decide +kernel) (pa_cons (pv 0) pa_nil)) pa_nil)))) pa_nil)) (pg_name (i := 2) nd rfl (Or.inl rfl)) (pss_cons (ps_set (i := 3) nd rfl (Or.inl rfl) (pe_c C__law_map hr (by decide) rfl (pa_cons (pv 1) (pa_cons pe_int (pa_cons pe_int pa_nil)))))
      (pss_cons (L2.ps_par3 (i := 4) (j := 5) (l := 6) (by rfl) nd rfl rfl rfl (by decide) (by decide) (by decide) rfl rfl rfl (pa_cons (pe_dget (Room.u1 hr) (pv 3) pe_str (fun _ _ => rfl)) (pa_cons (pe_dget (Room.u1 hr) (pv 3) pe_str (fun _ _ => rfl)) (pa_cons (pe_mk M_Map hr (by decide) rfl (pa_cons (pe_c C__law_map_text hr (by decide) rfl (pa_cons (pv 3) pa_nil)) pa_nil)) pa_nil))) (by rfl))
      (pss_cons (ps_set (i := 7) nd rfl (Or.inl rfl) (pe_mk M_Map hr (by decide) rfl (pa_cons (pe_c C__law_map_text hr (by decide) rfl (pa_cons (pe_disp (pps_cons pe_str (pe_c C__law_shuffled hr (by decide) rfl (pa_cons (pv 1) (pa_cons (pv 4) pa_nil))) (pps_cons pe_str (pe_c C__law_shuffled hr (by decide) rfl (pa_cons (pv 1) (pa_cons (pv 5) pa_nil))) pps_nil)) (by rfl) (by rfl) (by simp) (by decide)) pa_nil)) pa_nil)))
      (pss_cons (ps_set (i := 8) nd rfl (Or.inr rfl) (pe_dictZip (by rfl) T.b_dict (by rfl) T.b_zip (pa_cons (pv 4) (pa_cons (pe_c C__law_shuffled hr (by decide) rfl (pa_cons (pv 1) (pa_cons (pv 4) pa_nil))) pa_nil))))
      (pss_cons (ps_set (i := 9) nd rfl (Or.inl rfl) (pe_disp (pps_cons pe_str (pv 4) (pps_cons pe_str (pe_lc (own := [("_law_one", 10), ("_law_two", 11), ("_law_by", 12)]) (g := (gTup K 3 (gCons (gName 10) (gCons (gName 11) (gCons (gName 12) gNil))))) (by rfl) nd (pi_list (pv 5)) (blkOk_by (own := [("_law_one", 10), ("_law_two", 11), ("_law_by", 12)]) (N := N_law) (sc := C8.fnScope s_law) (by decide +kernel)) (fun _ _ _ _ _ => (pg_tupK (K := K) rfl rfl (pgs_cons (pg_name (i := 10) nd rfl (Or.inl rfl) (Or.inr rfl)) (pgs_cons (pg_name (i := 11) nd rfl (Or.inl rfl) (Or.inr rfl)) (pgs_cons (pg_name (i := 12) nd rfl (Or.inl rfl) (Or.inr rfl)) pgs_nil))))) (fun _ _ _ _ _ => pts_nil) (fun _ _ _ _ _ => (pe_tup (pa_cons (pe_dget (Room.u1 hr) (pv 8) (pv 10) (fun _ _ => rfl)) (pa_cons (pe_dget (Room.u1 hr) (pv 8) (pv 11) (fun _ _ => rfl)) (pa_cons (pv 12) pa_nil)))))) pps_nil)) (by rfl) (by rfl) (by simp) (by decide)))
      (pss_cons (ps_set (i := 13) nd rfl (Or.inl rfl) (pe_mk M_Map hr (by decide) rfl (pa_cons (pe_c C__law_map_text hr (by decide) rfl (pa_cons (pv 9) pa_nil)) pa_nil)))
      (pss_cons (ps_set (i := 14) nd rfl (Or.inl rfl) (pe_mk M_Map hr (by decide) rfl (pa_cons (pe_c C__law_map_text hr (by decide) rfl (pa_cons (pe_disp (pps_cons pe_str (pv 4) (pps_cons pe_str (pe_lc (own := [("_law_one", 10), ("_law_two", 11), ("_law_by", 12)]) (g := (gTup K 3 (gCons (gName 10) (gCons (gName 11) (gCons (gName 12) gNil))))) (by rfl) nd (pi_list (pv 5)) (blkOk_by (own := [("_law_one", 10), ("_law_two", 11), ("_law_by", 12)]) (N := N_law) (sc := C8.fnScope s_law) (by decide +kernel)) (fun _ _ _ _ _ => (pg_tupK (K := K) rfl rfl (pgs_cons (pg_name (i := 10) nd rfl (Or.inl rfl) (Or.inr rfl)) (pgs_cons (pg_name (i := 11) nd rfl (Or.inl rfl) (Or.inr rfl)) (pgs_cons (pg_name (i := 12) nd rfl (Or.inl rfl) (Or.inr rfl)) pgs_nil))))) (fun _ _ _ _ _ => pts_nil) (fun _ _ _ _ _ => (pe_tup (pa_cons (pv 10) (pa_cons (pv 11) (pa_cons (pe_un un_neg (pv 12)) pa_nil)))))) pps_nil)) (by rfl) (by rfl) (by simp) (by decide)) pa_nil)) pa_nil)))
      (pss_cons (ps_set (i := 15) nd rfl (Or.inl rfl) (pe_mk M_Map hr (by decide) rfl (pa_cons (pe_c C__law_map_text hr (by decide) rfl (pa_cons (pe_disp (pps_cons pe_str (pv 4) (pps_cons pe_str (pe_lc (own := [("_law_one", 10), ("_law_two", 11), ("_law_by", 12)]) (g := (gTup K 3 (gCons (gName 10) (gCons (gName 11) (gCons (gName 12) gNil))))) (by rfl) nd (pi_list (pv 5)) (blkOk_by (own := [("_law_one", 10), ("_law_two", 11), ("_law_by", 12)]) (N := N_law) (sc := C8.fnScope s_law) (by decide +kernel)) (fun _ _ _ _ _ => (pg_tupK (K := K) rfl rfl (pgs_cons (pg_name (i := 10) nd rfl (Or.inl rfl) (Or.inr rfl)) (pgs_cons (pg_name (i := 11) nd rfl (Or.inl rfl) (Or.inr rfl)) (pgs_cons (pg_name (i := 12) nd rfl (Or.inl rfl) (Or.inr rfl)) pgs_nil))))) (fun _ _ _ _ _ => pts_nil) (fun _ _ _ _ _ => (pe_tup (pa_cons (pv 11) (pa_cons (pv 10) (pa_cons (pv 12) pa_nil)))))) pps_nil)) (by rfl) (by rfl) (by simp) (by decide)) pa_nil)) pa_nil)))
      (pss_one (ps_for PassesOwn.never rfl (pi_list (pv 4)) (pg_name (i := 16) nd rfl (Or.inl rfl)) (pss_one (ps_for PassesOwn.never rfl (pi_list (pv 4)) (pg_name (i := 17) nd rfl (Or.inl rfl)) (pss_cons (ps_set (i := 18) nd rfl (Or.inl rfl) (pe_mt Q_Map_reach hr (by decide) (pv 6) (pa_cons (pv 16) (pa_cons (pv 17) pa_nil))))
      (pss_cons (ps_if (PW.pt (pw_or (pt_cmpR (op_ownNeM Q_DaySet___eq__ D.ne D.ob hr (by decide)) (pe_mt Q_Map_reach hr (by decide) (pv 7) (pa_cons (pv 16) (pa_cons (pv 17) pa_nil))) (pv 18) (nomark _)) (pw_or1 (pt_cmpR (op_ownNeM Q_DaySet___eq__ D.ne D.ob hr (by decide)) (pe_mt Q_Map_reach hr (by decide) (pv 13) (pa_cons (pe_dget (Room.u1 hr) (pv 8) (pv 16) (fun _ _ => rfl)) (pa_cons (pe_dget (Room.u1 hr) (pv 8) (pv 17) (fun _ _ => rfl)) pa_nil))) (pv 18) (nomark _))))) (pss_one (ps_ret pe_bl)) pss_nil)
      (pss_one (ps_if (PW.pt (pw_or (pt_cmpR (op_ownNeM Q_DaySet___eq__ D.ne D.ob hr (by decide)) (pe_mt Q_Map_reach hr (by decide) (pv 14) (pa_cons (pv 16) (pa_cons (pv 17) pa_nil))) (pe_un (un_ownNegM Q_DaySet___neg__ hr (by decide)) (pv 18)) (nomark _)) (pw_or1 (pt_cmpR (op_ownNeM Q_DaySet___eq__ D.ne D.ob hr (by decide)) (pe_mt Q_Map_reach hr (by decide) (pv 15) (pa_cons (pv 17) (pa_cons (pv 16) pa_nil))) (pv 18) (nomark _))))) (pss_one (ps_ret pe_bl)) pss_nil)))))))))))))))))
      (pss_one (ps_ret pe_bl)))), ?_⟩
  refine ⟨_, rfl, a, xs, rfl, hs, hx, fun d dl H1 l1 hd hdl p1 => ?_⟩
  refine ⟨fun _ _ => True, ?_, fun _ _ _ => qq _⟩
  refine ⟨_, rfl, a, _, rfl, .inl (sqL_le hs l1), _, _, rfl, _, _, rfl, rfl, _, rfl, ?_, ?_, ?_⟩
  · split <;> omega
  · split <;> omega
  refine for_it walk_range (fun i σ' H' => IsPen H' d dl (i * 300) ∧ ∃ x2 x3 x4 x5 x6 x7 x8 x9 x10 x11 x12 x13 x14 x15 x16 x17 x18, σ' = [some (.ref a), some (.ref d), x2, x3, x4, x5, x6, x7, x8, x9, x10, x11, x12, x13, x14, x15, x16, x17, x18]) ?_ (fun _ _ _ _ _ => trivial) ?_ (fun _ _ _ => trivial)
  · exact ⟨p1.mono (by decide), none, none, none, none, none, none, none, none, none, none, none, none, none, none, none, none, none, rfl⟩
  rintro i x σ Ha Hb hi ⟨pa, x2, x3, x4, x5, x6, x7, x8, x9, x10, x11, x12, x13, x14, x15, x16, x17, x18, rfl⟩ ⟨rfl, rfl⟩
  have hi6 : i < 5 := by
    revert hi
    split <;> (intro hi; omega)
  refine ⟨_, rfl, d, dl, _, 3, 6, rfl, pa, by omega, by decide, by decide, by decide, fun p r ws Pd H2 l2 p2 np hp dr => ?_⟩
  have o := dr.ok
  obtain ⟨gr, gd'⟩ := dr.good (by decide)
  obtain ⟨qc, qw, hq1, hq2, us, hq3, hus⟩ := id hp
  refine ⟨_, rfl, p, _, rfl, plain_chains hq1, _, rfl, p, _, rfl, plain_ways hq1, _, rfl, p, r, ws, rfl, hp, o, fun H3 l3 => ?_⟩
  refine make_mapR o gd' fun m H4 l4 hm nm => ?_
  refine ⟨_, _, _, rfl, ?_⟩
  have L4 := l3.trans l4
  have p4 := p2.le L4
  have hc4 : H4 qc = some (.lst (r.map V.str)) := L4 _ _ hq2
  have hw4 : H4 qw = some (.lst us) := L4 _ _ hq3
  have hus4 : All2 (WayAt H4) us ws := hus.imp fun v e h => h.le L4
  clear L4 l4 l3 nm hq1 hq2 hq3 hus hp np p2 pa
  have r6 := o.r6
  have w12 := o.w12
  have hul := hus4.len
  refine fun pf npf => ?_
  have k0 := Le.new (o := .dK []) npf
  have p5 := p4.le k0
  have hc5 := k0 _ _ hc4
  have hw5 := k0 _ _ hw4
  have hpf : upd H4 pf (.dK []) pf = some (.dK []) := upd_self
  have hus5 : All2 (WayAt (upd H4 pf (.dK []))) us ws := hus4.imp fun v e h => h.le k0
  have hm5 := hm.le k0
  generalize upd H4 pf (.dK []) = H5 at k0 p5 hc5 hw5 hpf hus5 hm5 ⊢
  refine ⟨_, rfl, _, rfl, d, dl, qc, _, r.map V.str, rfl, p5, by omega, .of hc5, by rw [List.length_map]; omega, fun q1 ys1 H6 l6 p6 n6 e6 pm6 => ?_⟩
  obtain ⟨r1, pr1, rfl⟩ := perm_str pm6
  have hw6 : H6 qw = some (.lst us) := l6 _ _ (pen_ne p5 hw5 fun _ _ q => by cases q) hw5
  have hc6 : H6 qc = some (.lst (r.map V.str)) := l6 _ _ (pen_ne p5 hc5 fun _ _ q => by cases q) hc5
  have hpf6 : H6 pf = some (.dK []) := l6 _ _ (pen_ne p5 hpf fun _ h q => by injection q with q; exact h q.symm) hpf
  have hus6 : All2 (WayAt H6) us ws := hus5.imp fun v e h => h.lp l6 p5.dk
  have hm6 := hm5.lp l6 p5.dk
  refine ⟨_, rfl, _, rfl, d, dl, qw, _, us, rfl, p6, by rw [List.length_map]; omega, .of hw6, by omega, fun q2 ys2 H7 l7 p7 n7 e7 pm7 => ?_⟩
  have hw7 : H7 qw = some (.lst us) := l7 _ _ (pen_ne p6 hw6 fun _ _ q => by cases q) hw6
  have hc7 : H7 qc = some (.lst (r.map V.str)) := l7 _ _ (pen_ne p6 hc6 fun _ _ q => by cases q) hc6
  have e67 : H7 q1 = some (.lst (r1.map V.str)) := l7 _ _ (pen_ne p6 e6 fun _ _ q => by cases q) e6
  have hpf7 : H7 pf = some (.dK []) := l7 _ _ (pen_ne p6 hpf6 fun _ h q => by injection q with q; exact h q.symm) hpf6
  have hus7 : All2 (WayAt H7) us ws := hus6.imp fun v e h => h.lp l7 p6.dk
  have hm7 := hm6.lp l7 p6.dk
  obtain ⟨ws1, pw1, hu1⟩ := hus7.perm pm7
  refine ⟨hpf7, plainV q1 q2, rfl, (show 2 ≤ 15 by decide), ?_⟩
  rw [show mergeK [] (plainV q1 q2) = plainV q1 q2 from rfl]
  have lx8 : LeX pf H7 (upd H7 pf (.dK (plainV q1 q2))) := Le.refl.x.upd
  have hpf8 : upd H7 pf (.dK (plainV q1 q2)) pf = some (.dK (plainV q1 q2)) := upd_self
  have npf7 : ∀ {z : Addr} {ob : HO}, H7 z = some ob → (∀ kvs, ob ≠ .dK kvs) → z ≠ pf := fun h hn e => by
    rw [e, hpf7] at h
    cases h
    exact hn _ rfl
  have dne : d ≠ pf := fun e => pen_ne p7 hpf7 (fun _ h q => by injection q with q; exact h q.symm) e.symm
  have dlne : dl ≠ pf := by
    obtain ⟨cells, tt, x, _, e1, _⟩ := p7
    exact npf7 e1 fun _ q => by cases q
  have p8 := p7.lx lx8 dne dlne
  have hw8 := lx8 _ _ (npf7 hw7 fun _ q => by cases q) hw7
  have hc8 := lx8 _ _ (npf7 hc7 fun _ q => by cases q) hc7
  have e68 := lx8 _ _ (npf7 e67 fun _ q => by cases q) e67
  have e78 := lx8 _ _ (npf7 e7 fun _ q => by cases q) e7
  have hus8 := hus7.imp fun v e h => h.lp lx8 ⟨_, hpf7⟩
  have hu8 := hu1.imp fun v e h => h.lp lx8 ⟨_, hpf7⟩
  have hm8 := hm7.lp lx8 ⟨_, hpf7⟩
  generalize upd H7 pf (.dK (plainV q1 q2)) = H8 at hpf8 p8 hw8 hc8 e68 e78 hus8 hu8 hm8 ⊢
  have o1 : OkMap r1 ws1 := o.perm pr1 pw1
  have g1 : Good ws1 Pd 253 84 := good_gr (gr.sub fun e he => pw1.mem_iff.mp he) dr.p1
  refine ⟨pf, r1, ws1, rfl, ⟨q1, q2, hpf8, e68, _, e78, hu8⟩, o1, fun H9 l9 => ?_⟩
  refine make_mapR o1 g1 fun m1 H10 l10 hm1 _ => ?_
  have L10 := l9.trans l10
  have p10 := p8.le L10
  have hw10 := L10 _ _ hw8
  have hc10 := L10 _ _ hc8
  have hus10 := hus8.imp fun v e h => h.le L10
  have hm10 := hm8.le L10
  clear L10 l10 l9 hpf8 p8 hw8 hc8 e68 e78 hus8 hu8 hm8 dlne dne npf7 lx8 hm7 hus7 hpf7 e67 hc7 hw7 hm6 hus6 hpf6 hc6 hw6 p7 n7 e7 pm7 l7 p6 n6 e6 pm6 l6 hm5 hus5 hpf hw5 hc5 p5 k0
  refine ⟨_, rfl, _, rfl, _, rfl, d, dl, qc, _, r.map V.str, rfl, p10, by rw [List.length_map, hul]; omega, .of hc10, by rw [List.length_map]; omega, fun q3 ys3 H11 l11 p11 n11 e11 pm11 => ?_⟩
  obtain ⟨r3, pr3, rfl⟩ := perm_str pm11
  have hw11 := l11 _ _ (pen_ne p10 hw10 fun _ _ q => by cases q) hw10
  have hc11 := l11 _ _ (pen_ne p10 hc10 fun _ _ q => by cases q) hc10
  have hus11 := hus10.imp fun v e h => h.lp l11 p10.dk
  have hm11 := hm10.lp l11 p10.dk
  have hm1' := hm1.lp l11 p10.dk
  have ekV : ∀ r : Row, (r.map (Sum.inr : Str → Key)).map kV = r.map V.str := fun r => by
    rw [List.map_map]
    rfl
  refine ⟨qc, q3, r.map Sum.inr, r3.map V.str, rfl, by rw [ekV]; exact .of hc11, .of e11, by rw [List.length_map, List.length_map, pr3.length_eq], fun pn npn => ?_⟩
  have hpn : upd H11 pn (.dK (mergeK [] ((r.map (Sum.inr : Str → Key)).zip (r3.map V.str)))) pn = some (.dK (mergeK [] ((r.map (Sum.inr : Str → Key)).zip (r3.map V.str)))) := upd_self
  have k12 := Le.new (o := .dK (mergeK [] ((r.map (Sum.inr : Str → Key)).zip (r3.map V.str)))) npn
  have p12 := p11.le k12
  have hw12 := k12 _ _ hw11
  have hc12 := k12 _ _ hc11
  have hus12 := hus11.imp fun v e h => h.le k12
  have hm12 := hm11.le k12
  have hm1'' := hm1'.le k12
  generalize upd H11 pn (.dK (mergeK [] ((r.map (Sum.inr : Str → Key)).zip (r3.map V.str)))) = H12 at hpn k12 p12 hw12 hc12 hus12 hm12 hm1'' ⊢
  clear k12 hm1' hm11 hus11 hc11 hw11 npn e11 n11 p11 l11 pm11 hm10 hus10 hc10 hw10 p10 hm1
  refine fun pg npg => ?_
  have kg := Le.new (o := .dK []) npg
  refine ⟨_, rfl, _, rfl, qw, rfl, ⟨_, .of (kg _ _ hw12)⟩, fun D2 nD2 => ?_⟩
  let Sg : V → V → V → L2.St := fun v10 v11 v12 => [some (.ref a), some (.ref d), some (.int (0 + (i : Nat))), some (.ref p), some (.ref qc), some (.ref qw), some (.ref m), some (.ref m1), some (.ref pn), x9, some v10, some v11, some v12, x13, x14, x15, x16, x17, x18]
  let fn : Str → Str := nameOf r r3
  refine lc_eff (walk_list (xs := us)) gives_at nD2 (fun H le => .of (le _ _ (kg _ _ hw12))) ws hul.symm (by rw [hul]; exact le_szl _ (by omega)) (Wk.rn fn) (fun v s H => WayAt H v s) (wy_mono D2) ?_ ?_
  · rintro k v e Hx hv he lx
    obtain ⟨e', he', t, rfl, ht⟩ := hus12.get hv
    rw [he] at he'
    cases he'
    have hte := (kg.trans lx) _ _ ht
    have hpe := (kg.trans lx) _ _ hpn
    have hew := o.wi e (List.mem_of_getElem? he)
    refine ⟨Sg (.str e.1) (.str e.2.1) (.int e.2.2), rfl, fun K2 hK => ⟨t, _, rfl, .of hte, rfl, _, _, rfl, _, _, rfl, _, _, rfl, rfl, hK⟩, fun N hN => ?_⟩
    refine ⟨_, rfl, _, rfl, pn, _, rfl, dget_of (k := .inr e.1) hpe (val_names pr3 o.rn hew.1), _, rfl, _, rfl, pn, _, rfl, dget_of (k := .inr e.2.1) hpe (val_names pr3 o.rn hew.2.1), _, rfl, le_szl 3 (by decide), fun u nu => hN _ _ (Le.new nu) ⟨u, rfl, upd_self⟩⟩
  intro H13 us2 l13 e13 hu13
  refine ⟨l13 _ _ upd_self, plainV qc D2, rfl, (show 2 ≤ 15 by decide), ?_⟩
  rw [show mergeK [] (plainV qc D2) = plainV qc D2 from rfl]
  have L14 : Le H12 (upd H13 pg (.dK (plainV qc D2))) := le_disp npg l13
  have hpg : upd H13 pg (.dK (plainV qc D2)) pg = some (.dK (plainV qc D2)) := upd_self
  have nDg : D2 ≠ pg := fun e => by have := l13 _ _ (upd_self (H := H12)); rw [← e, e13] at this; cases this
  have e14 : upd H13 pg (.dK (plainV qc D2)) D2 = some (.lst us2) := by rw [upd_ne nDg]; exact e13
  have hu14 : All2 (WayAt (upd H13 pg (.dK (plainV qc D2)))) us2 (ws.map (Wk.rn fn)) := hu13.imp fun v e h => by
    obtain ⟨t, e1, h⟩ := h
    have nt : t ≠ pg := fun e => by have := l13 _ _ (upd_self (H := H12)); rw [← e, h] at this; cases this
    exact ⟨t, e1, by rw [upd_ne nt]; exact h⟩
  generalize upd H13 pg (.dK (plainV qc D2)) = H14 at L14 hpg e14 hu14 ⊢
  have oN : OkMap r (ws.map (Wk.rn fn)) := o.rn_ (k := nameOf r3 r) (fun x hx => nameOf_mem hx pr3) (fun x hx => nameOf_back hx pr3 o.rn)
  have gN : Good (ws.map (Wk.rn fn)) Pd 253 84 := good_gr (gr.rn (f := fn) (k := nameOf r3 r) fun x hx => nameOf_back hx pr3 o.rn) dr.p1
  have hc14 := L14 _ _ hc12
  refine ⟨_, rfl, pg, r, _, rfl, ⟨qc, D2, hpg, hc14, _, e14, hu14⟩, oN, fun H15 l15 => ?_⟩
  refine make_mapR oN gN fun m2 H16 l16 hm2 _ => ?_
  have L16 := (L14.trans l15).trans l16
  clear hu14 e14 hpg l15 l16 L14 nDg hu13 e13 l13 hc14 nD2
  -- turned
  refine fun ph nph => ?_
  have kh := Le.new (o := .dK []) nph
  refine ⟨_, rfl, _, rfl, qw, rfl, ⟨_, .of (kh _ _ (L16 _ _ hw12))⟩, fun D3 nD3 => ?_⟩
  let Sh : V → V → V → L2.St := fun v10 v11 v12 => [some (.ref a), some (.ref d), some (.int (0 + (i : Nat))), some (.ref p), some (.ref qc), some (.ref qw), some (.ref m), some (.ref m1), some (.ref pn), some (.ref pg), some v10, some v11, some v12, some (.ref m2), x14, x15, x16, x17, x18]
  refine lc_eff (walk_list (xs := us)) gives_at nD3 (fun H le => .of (le _ _ (kh _ _ (L16 _ _ hw12)))) ws hul.symm (by rw [hul]; exact le_szl _ (by omega)) Wk.ng (fun v s H => WayAt H v s) (wy_mono D3) ?_ ?_
  · rintro k v e Hx hv he lx
    obtain ⟨e', he', t, rfl, ht⟩ := hus12.get hv
    rw [he] at he'
    cases he'
    have hte := ((L16.trans kh).trans lx) _ _ ht
    refine ⟨Sh (.str e.1) (.str e.2.1) (.int e.2.2), rfl, fun K2 hK => ⟨t, _, rfl, .of hte, rfl, _, _, rfl, _, _, rfl, _, _, rfl, rfl, hK⟩, fun N hN => ?_⟩
    refine ⟨_, rfl, _, rfl, _, rfl, _, rfl, le_szl 3 (by decide), fun u nu => hN _ _ (Le.new nu) ⟨u, rfl, upd_self⟩⟩
  intro H17 us3 l17 e17 hu17
  refine ⟨l17 _ _ upd_self, plainV qc D3, rfl, (show 2 ≤ 15 by decide), ?_⟩
  rw [show mergeK [] (plainV qc D3) = plainV qc D3 from rfl]
  have L18 : Le H16 (upd H17 ph (.dK (plainV qc D3))) := le_disp nph l17
  have hph : upd H17 ph (.dK (plainV qc D3)) ph = some (.dK (plainV qc D3)) := upd_self
  have nDh : D3 ≠ ph := fun e => by have := l17 _ _ (upd_self (H := H16)); rw [← e, e17] at this; cases this
  have e18 : upd H17 ph (.dK (plainV qc D3)) D3 = some (.lst us3) := by rw [upd_ne nDh]; exact e17
  have hu18 : All2 (WayAt (upd H17 ph (.dK (plainV qc D3)))) us3 (ws.map Wk.ng) := hu17.imp fun v e h => by
    obtain ⟨t, e1, h⟩ := h
    have nt : t ≠ ph := fun e => by have := l17 _ _ (upd_self (H := H16)); rw [← e, h] at this; cases this
    exact ⟨t, e1, by rw [upd_ne nt]; exact h⟩
  generalize upd H17 ph (.dK (plainV qc D3)) = H18 at L18 hph e18 hu18 ⊢
  have oT : OkMap r (ws.map Wk.ng) := o.ng
  have gT : Good (ws.map Wk.ng) Pd 253 84 := good_gr gr.ng dr.p1
  have L12 := L16.trans L18
  refine ⟨ph, r, _, rfl, ⟨qc, D3, hph, L12 _ _ hc12, _, e18, hu18⟩, oT, fun H19 l19 => ?_⟩
  refine make_mapR oT gT fun m3 H20 l20 hm3 _ => ?_
  have L20 := (L12.trans l19).trans l20
  have hm2' := hm2.le ((L18.trans l19).trans l20)
  clear hu18 e18 hph l19 l20 L18 nDh hu17 e17 l17 nD3 L12 L16 hm2 kh kg nph npg
  -- back
  refine fun pb npb => ?_
  have kb := Le.new (o := .dK []) npb
  refine ⟨_, rfl, _, rfl, qw, rfl, ⟨_, .of (kb _ _ (L20 _ _ hw12))⟩, fun D4 nD4 => ?_⟩
  let Sb : V → V → V → L2.St := fun v10 v11 v12 => [some (.ref a), some (.ref d), some (.int (0 + (i : Nat))), some (.ref p), some (.ref qc), some (.ref qw), some (.ref m), some (.ref m1), some (.ref pn), some (.ref pg), some v10, some v11, some v12, some (.ref m2), some (.ref m3), x15, x16, x17, x18]
  refine lc_eff (walk_list (xs := us)) gives_at nD4 (fun H le => .of (le _ _ (kb _ _ (L20 _ _ hw12)))) ws hul.symm (by rw [hul]; exact le_szl _ (by omega)) Wk.sw (fun v s H => WayAt H v s) (wy_mono D4) ?_ ?_
  · rintro k v e Hx hv he lx
    obtain ⟨e', he', t, rfl, ht⟩ := hus12.get hv
    rw [he] at he'
    cases he'
    have hte := ((L20.trans kb).trans lx) _ _ ht
    refine ⟨Sb (.str e.1) (.str e.2.1) (.int e.2.2), rfl, fun K2 hK => ⟨t, _, rfl, .of hte, rfl, _, _, rfl, _, _, rfl, _, _, rfl, rfl, hK⟩, fun N hN => ?_⟩
    refine ⟨_, rfl, _, rfl, _, rfl, le_szl 3 (by decide), fun u nu => hN _ _ (Le.new nu) ⟨u, rfl, upd_self⟩⟩
  intro H21 us4 l21 e21 hu21
  refine ⟨l21 _ _ upd_self, plainV qc D4, rfl, (show 2 ≤ 15 by decide), ?_⟩
  rw [show mergeK [] (plainV qc D4) = plainV qc D4 from rfl]
  have L22 : Le H20 (upd H21 pb (.dK (plainV qc D4))) := le_disp npb l21
  have hpb : upd H21 pb (.dK (plainV qc D4)) pb = some (.dK (plainV qc D4)) := upd_self
  have nDb : D4 ≠ pb := fun e => by have := l21 _ _ (upd_self (H := H20)); rw [← e, e21] at this; cases this
  have e22 : upd H21 pb (.dK (plainV qc D4)) D4 = some (.lst us4) := by rw [upd_ne nDb]; exact e21
  have hu22 : All2 (WayAt (upd H21 pb (.dK (plainV qc D4)))) us4 (ws.map Wk.sw) := hu21.imp fun v e h => by
    obtain ⟨t, e1, h⟩ := h
    have nt : t ≠ pb := fun e => by have := l21 _ _ (upd_self (H := H20)); rw [← e, h] at this; cases this
    exact ⟨t, e1, by rw [upd_ne nt]; exact h⟩
  generalize upd H21 pb (.dK (plainV qc D4)) = H22 at L22 hpb e22 hu22 ⊢
  have oB : OkMap r (ws.map Wk.sw) := o.sw
  have gB : Good (ws.map Wk.sw) Pd 253 84 := good_gr gr.sw dr.p1
  have L12 := L20.trans L22
  refine ⟨pb, r, _, rfl, ⟨qc, D4, hpb, L12 _ _ hc12, _, e22, hu22⟩, oB, fun H23 l23 => ?_⟩
  refine make_mapR oB gB fun m4 H24 l24 hm4 _ => ?_
  have L24 := (L12.trans l23).trans l24
  have hmA := hm12.le L24
  have hmO := hm1''.le L24
  have hmN := hm2'.le ((L22.trans l23).trans l24)
  have hmT := hm3.le ((L22.trans l23).trans l24)
  have pE := p12.le L24
  have hcE := L24 _ _ hc12
  have hpE := L24 _ _ hpn
  clear hu22 e22 hpb l23 l24 L22 nDb hu21 e21 l21 nD4 L12 L20 hm2' hm3 hm12 hm1'' kb npb L24 hpn hc12 hw12 p12 hus12
  have okR : ∀ x y, Ok (fR ws x y) Pd 254 := gd'.okR fun e he => o.wi e he |>.2.1
  refine ⟨_, rfl, qc, rfl, ⟨_, .of hcE⟩, ?_⟩
  let St : Option V → Option V → Option V → L2.St := fun v16 v17 v18 => [some (.ref a), some (.ref d), some (.int (0 + (i : Nat))), some (.ref p), some (.ref qc), some (.ref qw), some (.ref m), some (.ref m1), some (.ref pn), some (.ref pg), x10, x11, x12, some (.ref m2), some (.ref m3), some (.ref m4), v16, v17, v18]
  refine for_it (walk_list (xs := r.map V.str)) (fun j σ' H' => Le H24 H' ∧ ∃ v16 v17 v18, σ' = St v16 v17 v18) ?_ (fun _ _ _ _ h => .of (h.1 _ _ hcE)) ?_ (fun σ' H' h => ?_)
  · exact ⟨.refl, x16, x17, x18, rfl⟩
  · rintro j v σ' Hc Hd hj ⟨le, v16, v17, v18, rfl⟩ ⟨rfl, hv⟩
    rw [List.getElem?_map, Option.map_eq_some_iff] at hv
    obtain ⟨c1, hc1, rfl⟩ := hv
    have hc1r := List.mem_of_getElem? hc1
    refine ⟨_, rfl, qc, rfl, ⟨_, .of (le _ _ hcE)⟩, ?_⟩
    refine for_it (walk_list (xs := r.map V.str)) (fun j σ' H' => Le H24 H' ∧ ∃ v17 v18, σ' = St (some (.str c1)) v17 v18) ?_ (fun _ _ _ _ h => .of (h.1 _ _ hcE)) ?_ (fun σ' H' h => ?_)
    · exact ⟨le, v17, v18, rfl⟩
    · rintro j v σ' He Hf hj ⟨le2, w17, w18, rfl⟩ ⟨rfl, hv⟩
      rw [List.getElem?_map, Option.map_eq_some_iff] at hv
      obtain ⟨c2, hc2, rfl⟩ := hv
      have hc2r := List.mem_of_getElem? hc2
      have kA := hmA.le le2
      have kO := hmO.le le2
      have kN := hmN.le le2
      have kT := hmT.le le2
      have kB := hm4.le le2
      have kp := le2 _ _ hpE
      obtain ⟨_, dA, _, _, _, eA, _⟩ := id kA
      obtain ⟨_, dO, _, _, _, eO, _⟩ := id kO
      obtain ⟨_, dN, _, _, _, eN, _⟩ := id kN
      obtain ⟨_, dT, _, _, _, eT, _⟩ := id kT
      obtain ⟨_, dB, _, _, _, eB, _⟩ := id kB
      refine ⟨_, rfl, m, dA, _, rfl, eA, by rfl, _, rfl, _, rfl, m, c1, c2, r, ws, rfl, kA, hc1r, hc2r, fun qt H7 l7 d7 => ?_⟩
      dsimp only
      refine ifS_no (fun Qt hQt => ?_) (fun H10 l10 => ?_)
      · refine ⟨_, rfl, m1, dO, _, rfl, l7 _ _ eO, by rfl, _, rfl, _, rfl, m1, c1, c2, r1, ws1, rfl, kO.le l7, pr1.mem_iff.mpr hc1r, pr1.mem_iff.mpr hc2r, fun q2 H8 l8 d8 => ?_⟩
        have d7' := d7.le l8
        obtain ⟨F5, dx5, L5, z5, m5, e5⟩ := id d8
        obtain ⟨F7, dx7, L7, z7, m7, e7⟩ := id d7'
        have eqO : ∀ n, fR ws1 c1 c2 n = fR ws c1 c2 n := fR_same (fun e => pw1.mem_iff) c1 c2
        refine ⟨_, rfl, q2, qt, dx5, dx7, _, _, rfl, rfl, e5, e7, q2, qt, _, _, _, _, _, _, rfl, d8, d7', (okR c1 c2).to fun n => (eqO n).symm, okR c1 c2, fun e he => ?_⟩
        have e0 : e = true := he.mpr eqO
        rw [e0]
        refine ⟨_, rfl, _, rfl, ite2 (fun c => absurd c (by decide)) (fun _ => ?_)⟩
        refine ⟨_, rfl, m2, dN, _, rfl, (l7.trans l8) _ _ eN, by rfl, _, rfl, _, rfl, pn, _, rfl, dget_of (k := .inr c1) ((l7.trans l8) _ _ kp) (val_names pr3 o.rn hc1r), _, rfl, _, rfl, pn, _, rfl, dget_of (k := .inr c2) ((l7.trans l8) _ _ kp) (val_names pr3 o.rn hc2r), m2, fn c1, fn c2, r, _, rfl, kN.le (l7.trans l8), nameOf_mem hc1r pr3, nameOf_mem hc2r pr3, fun q3 H9 l9 d9 => ?_⟩
        have d7'' := d7'.le l9
        obtain ⟨F5, dx5, L5, z5, m5, e5⟩ := id d9
        obtain ⟨F7, dx7, L7, z7, m7, e7⟩ := id d7''
        have eqN : ∀ n, fR (ws.map (Wk.rn fn)) (fn c1) (fn c2) n = fR ws c1 c2 n := fR_rn (fun e he => ⟨(o.wi e he).1, (o.wi e he).2.1⟩) (fun x hx => nameOf_back hx pr3 o.rn) hc1r hc2r
        refine ⟨_, rfl, q3, qt, dx5, dx7, _, _, rfl, rfl, e5, e7, q3, qt, _, _, _, _, _, _, rfl, d9, d7'', (okR c1 c2).to fun n => (eqN n).symm, okR c1 c2, fun e he => ?_⟩
        have e0 : e = true := he.mpr eqN
        rw [e0]
        exact ⟨_, rfl, _, rfl, hQt _ (l8.trans l9)⟩
      · have d10 := d7.le l10
        have L10 := l7.trans l10
        refine ifS_last (fun Qt hQt => ?_) (fun H13 l13 => ?_)
        · refine ⟨_, rfl, m3, dT, _, rfl, L10 _ _ eT, by rfl, _, rfl, _, rfl, m3, c1, c2, r, _, rfl, kT.le L10, hc1r, hc2r, fun q4 H11 l11 d11 => ?_⟩
          have d7' := d10.le l11
          obtain ⟨F7, dx7, L7, z7, m7, e7⟩ := id d7'
          refine ⟨_, rfl, qt, dx7, _, rfl, e7, qt, _, rfl, d7', fun qn H12 l12 d12 nn => ?_⟩
          have d11' := d11.le l12
          obtain ⟨F5, dx5, L5, z5, m5, e5⟩ := id d11'
          obtain ⟨F6, dx6, L6, z6, m6, e6⟩ := id d12
          have okT := gT.okR (fun e he => oT.wi e he |>.2.1) c1 c2
          refine ⟨q4, qn, dx5, dx6, _, _, rfl, rfl, e5, e6, q4, qn, _, _, _, _, _, _, rfl, d11', d12, okT, okT.to fun n => fR_ng ws c1 c2 n, fun e he => ?_⟩
          have e0 : e = true := he.mpr fun n => fR_ng ws c1 c2 n
          rw [e0]
          refine ⟨_, rfl, _, rfl, ite2 (fun c => absurd c (by decide)) (fun _ => ?_)⟩
          have L12 := (L10.trans l11).trans l12
          refine ⟨_, rfl, m4, dB, _, rfl, L12 _ _ eB, by rfl, _, rfl, _, rfl, m4, c2, c1, r, _, rfl, kB.le L12, hc2r, hc1r, fun q5 H13 l13 d13 => ?_⟩
          have d7'' := (d7'.le l12).le l13
          obtain ⟨F5, dx5, L5, z5, m5, e5⟩ := id d13
          obtain ⟨F7, dx7, L7, z7, m7, e7⟩ := id d7''
          refine ⟨_, rfl, q5, qt, dx5, dx7, _, _, rfl, rfl, e5, e7, q5, qt, _, _, _, _, _, _, rfl, d13, d7'', (okR c1 c2).to fun n => (fR_sw ws c1 c2 n).symm, okR c1 c2, fun e he => ?_⟩
          have e0 : e = true := he.mpr fun n => fR_sw ws c1 c2 n
          rw [e0]
          exact ⟨_, rfl, _, rfl, hQt _ ((l11.trans l12).trans l13)⟩
        · exact ⟨le2.trans (L10.trans l13), _, _, rfl⟩
    · obtain ⟨le2, w17, w18, rfl⟩ := h
      exact ⟨le2, _, _, _, rfl⟩
  · obtain ⟨le2, v16, v17, v18, rfl⟩ := h
    exact ⟨(pE.le le2).mono (by rw [List.length_map, hul]; omega), _, _, _, _, _, _, _, _, _, _, _, _, _, _, _, _, _, rfl⟩
end
end Od
end
section
set_option Elab.async false
set_option linter.all false
set_option maxRecDepth 100000
set_option maxHeartbeats 2000000
set_option autoImplicit false
/-! a head's fact: a tuple of texts -/
namespace Od
open PySem PySem.Spec PyProof.Rows L2 He
def strsB : List Value → List Str → Bool
  | [], [] => true
  | .str y _ :: vs, z :: zs => decide (y = z) && strsB vs zs
  | _, _ => false
theorem strs_ok : ∀ {vs : List Value} {zs : List Str}, strsB vs zs = true → Vals (zs.map V.str) vs
  | [], [], _ => .nil
  | v :: vs, z :: zs, h => by
    cases v with
    | str y t =>
      have h : (decide (y = z) && strsB vs zs) = true := h
      rw [Bool.and_eq_true] at h
      have e : y = z := of_decide_eq_true h.1
      exact .cons ⟨t, by rw [e]⟩ (strs_ok h.2)
    | _ => cases h
  | [], _ :: _, h => by cases h
  | v :: vs, [], h => by cases v <;> cases h
def tupB (K : PySem.W.Frag) (a : Addr) (zs : List Str) : Bool := match K.lookup a with
  | some ⟨.type t, _, .seq its _, _⟩ => decide (t = "tuple") && (decide (its.size ≤ 1000) && strsB its.toList zs)
  | _ => false
theorem tup_ok {K : PySem.W.Frag} {a : Addr} {zs : List Str} (h : tupB K a zs = true) (H : Hp) : SqT K H a (zs.map V.str) := by
  unfold tupB at h
  split at h
  · rename_i t x its n sl e
    rw [Bool.and_eq_true, Bool.and_eq_true] at h
    have et : t = "tuple" := of_decide_eq_true h.1
    have hs : its.size ≤ 1000 := of_decide_eq_true h.2.1
    refine .inr ⟨_, its, n, e, by rw [et], rfl, le_szl _ (by omega), strs_ok h.2.2⟩
  · cases h
end Od
end
section
set_option Elab.async false
set_option linter.all false
set_option maxRecDepth 100000
set_option maxHeartbeats 2000000
set_option autoImplicit false
/-! a head's fact: a method with a star parameter -/
namespace Od
open PySem PySem.Spec PyProof.Rows L2 He
theorem metOfV_ {K : PySem.W.Frag} {c m q : Str} {st : Stmt} {pa pv : Str} (c1 : (Fa.meth c m).ok K = true) (c2 : ∃ fd, C8.Fun K (dM c m q st).name (dM c m q st).qual (dM c m q st).st ((dM c m q st).ad K) fd ∧ fd.defaults = .none ∧ PySem.W.keepIn K (.ref ((dM c m q st).ad K)) = true)
    (hb : ∀ (kV doc pm : Value) (an : Option Addr) (cdv ct : Value) (u : Value) (rest : List Value), rest.length ≤ 2 → bindArgs (PySem.W.fnOf m q (C8.fnArgs st) (C8.fnBody st) (C8.fnScope st) .none kV doc pm an cdv ct) ⟨u :: rest, []⟩ = (newTuple rest >>= fun t => pure [(pa, u), (pv, t)])) : MetOfV K (ga K c) m q st pa pv := by
  obtain ⟨fd, F, df, kp⟩ := c2
  have F2 := F
  obtain ⟨oc, od, dV, kV, doc, pm, an, cdv, ct, osl, rfl, lk, hcd⟩ := F.ex
  have e : dV = .none := df
  subst e
  exact ⟨_, _, meth_ok c1, F2, hb kV doc pm an cdv ct⟩
end Od
end
section
set_option Elab.async false
set_option linter.all false
set_option maxRecDepth 100000
/-! the run's equation, part by part -/
noncomputable section
namespace HandSHeadRun
open PySem PySem.W PySem.Calls PyProof.Rows
def RunL (r : OpenRow) (M : Nat) (w : World) : Prop := ∀ os : OsState, (endF (stepQ (denQ tabQ) r.prog w) M r.prog w os).map (fun s => looksF r.prog (boot_heap w.params) s.abs) = some true
def RunS (r : OpenRow) (q : Program) (M : Nat) (loose : List PySem.Str) (w : World) : Prop := ∀ os : OsState, (endF (stepQ (denQ tabQ) r.prog w) M r.prog w os).map (fun s => seenQ q loose (importedModules r.prog.main.body) (fun s => xlAt q [] s && recOk r.toRowW.records s) s.abs) = some (openGood q loose)
def RunO (r : OpenRow) (H : Hook) (ob : SharedT → H.α) (M : Nat) (w : World) : Prop := ∀ os : OsState, (endF (stepQ (denQ tabQ) r.prog w) M r.prog w os).map (fun s => ob s) = some (H.val w)
theorem map3 {α A B C : Type _} {o : Option α} {f : α → A} {g : α → B} {h : α → C} {a : A} {b : B} {c : C} (h1 : o.map f = some a) (h2 : o.map g = some b) (h3 : o.map h = some c) : o.map (fun s => (f s, g s, h s)) = some (a, b, c) := by
  cases o with
  | none => cases h1
  | some s =>
    have e1 : f s = a := Option.some.inj h1
    have e2 : g s = b := Option.some.inj h2
    have e3 : h s = c := Option.some.inj h3
    show some (f s, g s, h s) = _
    rw [e1, e2, e3]
theorem runEq3 {r : OpenRow} {q : Program} {H : Hook} {ob : SharedT → H.α} {M : Nat} {loose : List PySem.Str} {w : World} (h1 : RunL r M w) (h2 : RunS r q M loose w) (h3 : RunO r H ob M w) : RunEq r q H ob M loose w := fun os => map3 (h1 os) (h2 os) (h3 os)
end HandSHeadRun
end
section
set_option Elab.async false
set_option linter.all false
set_option maxRecDepth 100000
set_option maxHeartbeats 2000000
set_option autoImplicit false
/-! the head: the places that are looked at are told beforehand -/
namespace Od
open PySem PySem.Spec PyProof.Rows L2 He
def obsLG (as : List Addr) (mo : PySem.W.Frag → Bool) (fn : List DefE) (ts : List Str) (g : Addr → Option Obj) : AlT := obsT mo fn ts g (frT g as)
def hookL (as : List Addr) (mo : PySem.W.Frag → Bool) (fn : List DefE) (ts : List Str) : PySem.W.Hook where
  α := AlT
  obs := fun s => obsLG as mo fn ts s.heap.get?
  val := fun _ => (valE fn, true)
  says := fun _ h => ∃ K : PySem.W.Frag, K.In h ∧ NoLT K ∧ obsE mo fn K = valE fn ∧ ∀ x ∈ ts, ∃ p, TabO K h x p
  of := fun w s e => by
    have e1 : obsE mo fn (frT s.heap.get? as) = valE fn := congrArg (fun z : AlT => z.1) e
    have e2 : (ts.all fun x => tabB s.heap.get? (frT s.heap.get? as) x) = true := congrArg (fun z : AlT => z.2) e
    exact ⟨_, frT_in, frT_no, e1, fun x hx => tabB_ok frT_in (List.all_eq_true.mp e2 x hx)⟩
  keeps := fun _ _ _ ⟨K, hK, n, c, t⟩ k => ⟨K, PySem.W.Frag.In.keeps hK k, n, c, fun x hx => by
    obtain ⟨p, h1, h2, h3⟩ := t x hx
    exact ⟨p, h1, h2.keeps k, k _ _ h3⟩⟩
theorem obsLG_eq {as : List Addr} {mo : PySem.W.Frag → Bool} {fn : List DefE} {ts : List Str} {g : Addr → Option Obj} {s : Shared} (h : ∀ a, g a = s.heap.get? a) : obsLG as mo fn ts g = (hookL as mo fn ts).obs s := by
  have e : g = s.heap.get? := funext h
  rw [e] <;> rfl
def obsLE (as : List Addr) (mo : PySem.W.Frag → Bool) (fn : List DefE) (g : Addr → Option Obj) : AlE := obsE mo fn (frG g as)
def hookLE (as : List Addr) (mo : PySem.W.Frag → Bool) (fn : List DefE) : PySem.W.Hook where
  α := AlE
  obs := fun s => obsLE as mo fn s.heap.get?
  val := fun _ => valE fn
  says := fun _ h => ∃ K : PySem.W.Frag, K.In h ∧ obsE mo fn K = valE fn
  of := fun _ _ e => ⟨_, frG_in, e⟩
  keeps := fun _ _ _ ⟨K, hK, c⟩ k => ⟨K, PySem.W.Frag.In.keeps hK k, c⟩
theorem obsLE_eq {as : List Addr} {mo : PySem.W.Frag → Bool} {fn : List DefE} {g : Addr → Option Obj} {s : Shared} (h : ∀ a, g a = s.heap.get? a) : obsLE as mo fn g = (hookLE as mo fn).obs s := by
  have e : g = s.heap.get? := funext h
  rw [e] <;> rfl
end Od
end
set_option Elab.async false
set_option linter.all false
set_option maxRecDepth 100000
set_option maxHeartbeats 0
set_option autoImplicit false
namespace Od
open PySem PySem.Spec PyProof.Rows L2 He
abbrev faL : List Fa := [.glo "divisor_of", .glo "multiple_of", .glo "root_of", .glo "turned_row", .glo "bare_form", .glo "least_form", .glo "first_of_rests", .glo "begun_sums", .glo "whole_rests", .glo "firsts_of", .glo "set_of", .glo "sum_of", .glo "least_sums", .glo "star_of", .glo "is_count", .glo "is_number", .glo "lines_of", .glo "words_of", .glo "is_name", .glo "is_chain_line", .glo "way_of", .glo "read_map", .glo "through", .glo "reaches", .glo "_law_pen", .glo "_law_draw", .glo "_law_pick", .glo "_law_shuffled", .glo "_law_barred", .glo "_law_names", .glo "_law_rings", .glo "_law_period", .glo "_law_map", .glo "_law_map_text", .mkr "DaySet", .mkr "Map", .meth "DaySet" "sign", .meth "DaySet" "days_in", .meth "DaySet" "merged", .meth "DaySet" "__or__", .meth "DaySet" "__sub__", .meth "DaySet" "__bool__", .meth "DaySet" "__str__", .meth "DaySet" "__eq__", .meth "DaySet" "__le__", .meth "DaySet" "__neg__", .meth "DaySet" "__add__", .meth "DaySet" "next_from", .meth "DaySet" "last_until", .meth "DaySet" "goes_up", .meth "DaySet" "goes_down", .meth "DaySet" "sums", .meth "Map" "need", .meth "Map" "reach", .free "len", .free "abs", .free "int", .free "str", .free "min", .free "max", .free "range", .free "all", .free "any", .free "isinstance", .free "bool", .free "list", .free "enumerate", .free "sorted", .free "dict", .free "repr", .free "tuple", .free "zip", .free "sum", .free "reversed", .str "DIGITS" "0123456789", .cls "DaySet", .glo "DaySet", .noat "DaySet" "left", .noat "DaySet" "low", .noat "DaySet" "middle", .noat "DaySet" "right", .noat "DaySet" "high", .cls "Map", .glo "Map", .noat "Map" "text", .noat "Map" "chains", .noat "Map" "ways", .noat "Map" "sums_between", .glo "BARRED", .str "LETTERS" "abcdefghijklmnopqrstuvwxyz", .int "LONGEST" 12, .int "MOST_CHAINS" 6, .int "MOST_WAYS" 12, .int "FARTHEST" 30, .int "LONGEST_NUMBER" 3, .int "WAY_WORDS" 6, .glo "law"]
abbrev exL (K : PySem.W.Frag) : List Bool := [crdB K "DaySet", clmB K "DaySet" "none", clmB K "DaySet" "of", PySem.W.selfFirst K (ga K "DaySet"), eqO (PySem.W.findIn K (.ref (ga K "DaySet")) "__ne__") (some (some (.builtin "object.__ne__"))), decide (PySem.W.mroIn K (ga K "DaySet") (.type "object") = some true), eqO (PySem.W.findIn K (.ref (ga K "DaySet")) "__class__") (some (some (.builtin "object.__class__"))), eqO (PySem.W.specialIn K (.builtin "object.__class__") "__get__") (some (some (.builtin "getset_descriptor.__get__"))), decide (PySem.W.takesIn K (.builtin "object.__class__") = some true), decide (PySem.W.kitOne K (.ref (ga K "DaySet")) (.ref (ga K "DaySet")) = some true), decide (PySem.W.subIn K (.type "int") (.ref (ga K "DaySet")) = some false), eqO (PySem.W.findIn K (.ref (ga K "DaySet")) (dunderR "rshift")) (some none), eqO (PySem.W.findIn K (.ref (ga K "DaySet")) (dunderR "lshift")) (some none), eqO (PySem.W.findIn K (.type "int") (PySem.dunder "rshift")) (some (some (.builtin "int.__rshift__"))), eqO (PySem.W.findIn K (.type "int") (PySem.dunder "lshift")) (some (some (.builtin "int.__lshift__"))), eqO (PySem.W.findIn K (.type "int") (dunderR "rshift")) (some (some (.builtin "int.__rrshift__"))), eqO (PySem.W.findIn K (.type "int") (dunderR "lshift")) (some (some (.builtin "int.__rlshift__"))), eqO (PySem.W.findIn K (.ref (ga K "Map")) "__ne__") (some (some (.builtin "object.__ne__"))), decide (PySem.W.mroIn K (ga K "Map") (.type "object") = some true), eqO (PySem.W.findIn K (.ref (ga K "Map")) "__class__") (some (some (.builtin "object.__class__"))), decide (PySem.W.kitOne K (.ref (ga K "Map")) (.ref (ga K "Map")) = some true), tupB K (ga K "BARRED") barL]
def fnL : List DefE := [dG "divisor_of" s_divisor_of, dG "multiple_of" s_multiple_of, dG "root_of" s_root_of, dG "turned_row" s_turned_row, dG "bare_form" s_bare_form, dG "least_form" s_least_form, dG "first_of_rests" s_first_of_rests, dG "begun_sums" s_begun_sums, dG "whole_rests" s_whole_rests, dG "firsts_of" s_firsts_of, dG "set_of" s_set_of, dG "sum_of" s_sum_of, dG "least_sums" s_least_sums, dG "star_of" s_star_of, dG "is_count" s_is_count, dG "is_number" s_is_number, dG "lines_of" s_lines_of, dG "words_of" s_words_of, dG "is_name" s_is_name, dG "is_chain_line" s_is_chain_line, dG "way_of" s_way_of, dG "read_map" s_read_map, dG "through" s_through, dG "reaches" s_reaches, dG "_law_pen" s__law_pen, dG "_law_draw" s__law_draw, dG "_law_pick" s__law_pick, dG "_law_shuffled" s__law_shuffled, dG "_law_barred" s__law_barred, dG "_law_names" s__law_names, dG "_law_rings" s__law_rings, dG "_law_period" s__law_period, dG "_law_map" s__law_map, dG "_law_map_text" s__law_map_text, dM "DaySet" "__init__" "DaySet.__init__" s_DaySet___init__, dM "Map" "__init__" "Map.__init__" s_Map___init__, dM "DaySet" "sign" "DaySet.sign" s_DaySet_sign, dM "DaySet" "days_in" "DaySet.days_in" s_DaySet_days_in, dM "DaySet" "merged" "DaySet.merged" s_DaySet_merged, dM "DaySet" "__or__" "DaySet.__or__" s_DaySet___or__, dM "DaySet" "__sub__" "DaySet.__sub__" s_DaySet___sub__, dM "DaySet" "__bool__" "DaySet.__bool__" s_DaySet___bool__, dM "DaySet" "__str__" "DaySet.__str__" s_DaySet___str__, dM "DaySet" "__eq__" "DaySet.__eq__" s_DaySet___eq__, dM "DaySet" "__le__" "DaySet.__le__" s_DaySet___le__, dM "DaySet" "__neg__" "DaySet.__neg__" s_DaySet___neg__, dM "DaySet" "__add__" "DaySet.__add__" s_DaySet___add__, dM "DaySet" "next_from" "DaySet.next_from" s_DaySet_next_from, dM "DaySet" "last_until" "DaySet.last_until" s_DaySet_last_until, dM "DaySet" "goes_up" "DaySet.goes_up" s_DaySet_goes_up, dM "DaySet" "goes_down" "DaySet.goes_down" s_DaySet_goes_down, dM "DaySet" "sums" "DaySet.sums" s_DaySet_sums, dM "Map" "need" "Map.need" s_Map_need, dM "Map" "reach" "Map.reach" s_Map_reach, dC "DaySet" "none" "DaySet.none" s_DaySet_none, dC "DaySet" "of" "DaySet.of" s_DaySet_of, dG "law" s_law]
abbrev moL : PySem.W.Frag → Bool := moF faL exL
abbrev RL : PySem.W.OpenRow := PySem.W.OpenLaw.row PySem.Challenge.rw_onewaydays_k14_whole_maps_turned
def asL : List Addr := ([3, 2, 6, 4, 21, 31, 53, 74, 95, 98, 105, 112, 117, 122, 129, 136, 143, 150, 157, 164, 171, 176, 465, 476, 481, 488, 495, 500, 505, 510, 517, 522, 529, 536, 543, 550, 555, 600, 611, 618, 625, 632, 639, 644, 649, 656, 663, 668, 673, 0, 20, 30, 52, 73, 94, 104, 111, 116, 121, 128, 135, 142, 149, 156, 163, 170, 175, 464, 475, 480, 487, 494, 499, 504, 509, 516, 521, 528, 535, 542, 549, 554, 599, 610, 617, 624, 631, 638, 643, 648, 655, 662, 667, 672, 15, 16, 17, 18, 19, 29] : List Addr) ++ ([32, 50, 51, 71, 72, 92, 93, 99, 100, 101, 102, 103, 106, 107, 108, 109, 110, 113, 114, 115, 118, 119, 120, 123, 124, 125, 126, 127, 130, 131, 132, 133, 134, 137, 138, 139, 140, 141, 144, 145, 146, 147, 148, 151, 152, 153, 154, 155, 158, 159, 160, 161, 162, 165, 166, 167, 168, 169, 172, 173, 174, 190, 199, 209, 217, 227, 237, 247, 257, 265, 270, 275, 282, 289, 296, 303, 310, 317, 324, 331, 338, 345, 352, 359, 366, 373, 380, 387, 394, 401, 408, 415, 422, 429, 434, 441, 448, 455, 462, 463] : List Addr) ++ ([466, 467, 470, 471, 472, 473, 474, 477, 478, 479, 482, 483, 484, 485, 486, 489, 490, 491, 492, 493, 496, 497, 498, 501, 502, 503, 506, 507, 508, 511, 512, 513, 514, 515, 518, 519, 520, 523, 524, 525, 526, 527, 530, 531, 532, 533, 534, 537, 538, 539, 540, 541, 544, 545, 546, 547, 548, 551, 552, 553, 569, 576, 583, 590, 597, 598, 601, 602, 605, 606, 607, 608, 609, 612, 613, 614, 615, 616, 619, 620, 621, 622, 623, 626, 627, 628, 629, 630, 633, 634, 635, 636, 637, 640, 641, 642, 645, 646, 647, 650] : List Addr) ++ ([651, 652, 653, 654, 657, 658, 659, 660, 661, 664, 665, 666, 669, 670, 671, 49, 38, 70, 59, 91, 80, 189, 197, 198, 207, 208, 215, 216, 225, 226, 235, 236, 245, 246, 255, 256, 264, 269, 274, 281, 288, 295, 302, 309, 316, 323, 330, 337, 344, 351, 358, 365, 372, 379, 386, 393, 400, 407, 414, 421, 428, 433, 440, 447, 454, 461, 568, 575, 582, 589, 596, 44, 45, 46, 47, 48, 65, 66, 67, 68, 69, 86, 87, 88, 89, 90, 184, 185, 186, 187, 188, 196, 200, 206, 210, 214, 218, 224, 228, 234] : List Addr) ++ ([238, 244, 248, 254, 258, 259, 260, 261, 262, 263, 266, 267, 268, 271, 272, 273, 276, 277, 278, 279, 280, 283, 284, 285, 286, 287, 290, 291, 292, 293, 294, 297, 298, 299, 300, 301, 304, 305, 306, 307, 308, 311, 312, 313, 314, 315, 318, 319, 320, 321, 322, 325, 326, 327, 328, 329, 332, 333, 334, 335, 336, 339, 340, 341, 342, 343, 346, 347, 348, 349, 350, 353, 354, 355, 356, 357, 360, 361, 362, 363, 364, 367, 368, 369, 370, 371, 374, 375, 376, 377, 378, 381, 382, 383, 384, 385, 388, 389, 390, 391] : List Addr) ++ ([392, 395, 396, 397, 398, 399, 402, 403, 404, 405, 406, 409, 410, 411, 412, 413, 416, 417, 418, 419, 420, 423, 424, 425, 426, 427, 430, 431, 432, 435, 436, 437, 438, 439, 442, 443, 444, 445, 446, 449, 450, 451, 452, 453, 456, 457, 458, 459, 460, 563, 564, 565, 566, 567, 570, 571, 572, 573, 574, 577, 578, 579, 580, 581, 584, 585, 586, 587, 588, 591, 592, 593, 594, 595, 191, 192, 193, 194, 195, 201, 202, 203, 204, 205, 211, 212, 213, 219, 220, 221, 222, 223, 229, 230, 231, 232, 233, 239, 240, 241] : List Addr) ++ ([242, 243, 249, 250, 251, 252, 253] : List Addr)
def tsL : List Str := []
abbrev hkL : PySem.W.Hook := hookL asL moL fnL tsL
def obL (s : PySem.W.SharedT) : AlT := obsLG asL moL fnL tsL (HandSHeadRun.getT s)
theorem obL_eq (s : PySem.W.SharedT) : obL s = hkL.obs s.abs := obsLG_eq (HandSHeadRun.getT_eq s)
def namesL : List Str := (["_wall", "__name__", "OneWayError", "BadDays", "BadMap", "NoChain", "BARRED", "LETTERS", "DIGITS", "LONGEST", "lines_of", "words_of", "is_name", "is_count", "is_number", "divisor_of", "multiple_of", "root_of", "turned_row", "least_form"] : List Str) ++ (["bare_form", "is_row", "DaySet", "many_in", "set_of", "first_of_rests", "firsts_of", "begun_sums", "whole_rests", "sum_of", "star_of", "least_sums", "MOST_CHAINS", "MOST_WAYS", "FARTHEST", "LONGEST_NUMBER", "WAY_WORDS", "is_chain_line", "way_of", "read_map"] : List Str) ++ (["through", "reaches", "Map", "_law_pen", "_law_draw", "_law_pick", "_law_shuffled", "_law_barred", "_law_names", "_law_rings", "_law_period", "_law_map", "_law_map_text"] : List Str)
theorem runL (w : World) : HandSHeadRun.RunEq RL (PySem.W.view RL.prog [57]) hkL obL 7000 namesL w := by
  intro os
  kernel_rfl
section
variable {K : PySem.W.Frag} {h : Heap} {mg : Str → Option Value}
theorem h_F_divisor_of (X : K.In h) (G : h.Ns mainGlobals mg) (c : obsE moL fnL K = valE fnL) : DefOf K mg "divisor_of" s_divisor_of P_divisor_of := defOf_ X G (moF_fact (saysE_mo c) 0) (saysE_def c 0) (fun _ _ _ _ _ _ us hl => match us, hl with | [_, _], _ => rfl)
theorem h_F_multiple_of (X : K.In h) (G : h.Ns mainGlobals mg) (c : obsE moL fnL K = valE fnL) : DefOf K mg "multiple_of" s_multiple_of P_multiple_of := defOf_ X G (moF_fact (saysE_mo c) 1) (saysE_def c 1) (fun _ _ _ _ _ _ us hl => match us, hl with | [_, _], _ => rfl)
theorem h_F_root_of (X : K.In h) (G : h.Ns mainGlobals mg) (c : obsE moL fnL K = valE fnL) : DefOf K mg "root_of" s_root_of P_root_of := defOf_ X G (moF_fact (saysE_mo c) 2) (saysE_def c 2) (fun _ _ _ _ _ _ us hl => match us, hl with | [_], _ => rfl)
theorem h_F_turned_row (X : K.In h) (G : h.Ns mainGlobals mg) (c : obsE moL fnL K = valE fnL) : DefOf K mg "turned_row" s_turned_row P_turned_row := defOf_ X G (moF_fact (saysE_mo c) 3) (saysE_def c 3) (fun _ _ _ _ _ _ us hl => match us, hl with | [_, _], _ => rfl)
theorem h_F_bare_form (X : K.In h) (G : h.Ns mainGlobals mg) (c : obsE moL fnL K = valE fnL) : DefOf K mg "bare_form" s_bare_form P_bare_form := defOf_ X G (moF_fact (saysE_mo c) 4) (saysE_def c 4) (fun _ _ _ _ _ _ us hl => match us, hl with | [_, _, _], _ => rfl)
theorem h_F_least_form (X : K.In h) (G : h.Ns mainGlobals mg) (c : obsE moL fnL K = valE fnL) : DefOf K mg "least_form" s_least_form P_least_form := defOf_ X G (moF_fact (saysE_mo c) 5) (saysE_def c 5) (fun _ _ _ _ _ _ us hl => match us, hl with | [_, _, _, _], _ => rfl)
theorem h_F_first_of_rests (X : K.In h) (G : h.Ns mainGlobals mg) (c : obsE moL fnL K = valE fnL) : DefOf K mg "first_of_rests" s_first_of_rests P_first_of_rests := defOf_ X G (moF_fact (saysE_mo c) 6) (saysE_def c 6) (fun _ _ _ _ _ _ us hl => match us, hl with | [_, _], _ => rfl)
theorem h_F_begun_sums (X : K.In h) (G : h.Ns mainGlobals mg) (c : obsE moL fnL K = valE fnL) : DefOf K mg "begun_sums" s_begun_sums P_begun_sums := defOf_ X G (moF_fact (saysE_mo c) 7) (saysE_def c 7) (fun _ _ _ _ _ _ us hl => match us, hl with | [_, _, _], _ => rfl)
theorem h_F_whole_rests (X : K.In h) (G : h.Ns mainGlobals mg) (c : obsE moL fnL K = valE fnL) : DefOf K mg "whole_rests" s_whole_rests P_whole_rests := defOf_ X G (moF_fact (saysE_mo c) 8) (saysE_def c 8) (fun _ _ _ _ _ _ us hl => match us, hl with | [_, _, _], _ => rfl)
theorem h_F_firsts_of (X : K.In h) (G : h.Ns mainGlobals mg) (c : obsE moL fnL K = valE fnL) : DefOf K mg "firsts_of" s_firsts_of P_firsts_of := defOf_ X G (moF_fact (saysE_mo c) 9) (saysE_def c 9) (fun _ _ _ _ _ _ us hl => match us, hl with | [_, _, _], _ => rfl)
theorem h_F_set_of (X : K.In h) (G : h.Ns mainGlobals mg) (c : obsE moL fnL K = valE fnL) : DefOf K mg "set_of" s_set_of P_set_of := defOf_ X G (moF_fact (saysE_mo c) 10) (saysE_def c 10) (fun _ _ _ _ _ _ us hl => match us, hl with | [_, _, _, _, _], _ => rfl)
theorem h_F_sum_of (X : K.In h) (G : h.Ns mainGlobals mg) (c : obsE moL fnL K = valE fnL) : DefOf K mg "sum_of" s_sum_of P_sum_of := defOf_ X G (moF_fact (saysE_mo c) 11) (saysE_def c 11) (fun _ _ _ _ _ _ us hl => match us, hl with | [_, _], _ => rfl)
theorem h_F_least_sums (X : K.In h) (G : h.Ns mainGlobals mg) (c : obsE moL fnL K = valE fnL) : DefOf K mg "least_sums" s_least_sums P_least_sums := defOf_ X G (moF_fact (saysE_mo c) 12) (saysE_def c 12) (fun _ _ _ _ _ _ us hl => match us, hl with | [_, _], _ => rfl)
theorem h_F_star_of (X : K.In h) (G : h.Ns mainGlobals mg) (c : obsE moL fnL K = valE fnL) : DefOf K mg "star_of" s_star_of P_star_of := defOf_ X G (moF_fact (saysE_mo c) 13) (saysE_def c 13) (fun _ _ _ _ _ _ us hl => match us, hl with | [_], _ => rfl)
theorem h_F_is_count (X : K.In h) (G : h.Ns mainGlobals mg) (c : obsE moL fnL K = valE fnL) : DefOf K mg "is_count" s_is_count P_is_count := defOf_ X G (moF_fact (saysE_mo c) 14) (saysE_def c 14) (fun _ _ _ _ _ _ us hl => match us, hl with | [_], _ => rfl)
theorem h_F_is_number (X : K.In h) (G : h.Ns mainGlobals mg) (c : obsE moL fnL K = valE fnL) : DefOf K mg "is_number" s_is_number P_is_number := defOf_ X G (moF_fact (saysE_mo c) 15) (saysE_def c 15) (fun _ _ _ _ _ _ us hl => match us, hl with | [_], _ => rfl)
theorem h_F_lines_of (X : K.In h) (G : h.Ns mainGlobals mg) (c : obsE moL fnL K = valE fnL) : DefOf K mg "lines_of" s_lines_of P_lines_of := defOf_ X G (moF_fact (saysE_mo c) 16) (saysE_def c 16) (fun _ _ _ _ _ _ us hl => match us, hl with | [_], _ => rfl)
theorem h_F_words_of (X : K.In h) (G : h.Ns mainGlobals mg) (c : obsE moL fnL K = valE fnL) : DefOf K mg "words_of" s_words_of P_words_of := defOf_ X G (moF_fact (saysE_mo c) 17) (saysE_def c 17) (fun _ _ _ _ _ _ us hl => match us, hl with | [_], _ => rfl)
theorem h_F_is_name (X : K.In h) (G : h.Ns mainGlobals mg) (c : obsE moL fnL K = valE fnL) : DefOf K mg "is_name" s_is_name P_is_name := defOf_ X G (moF_fact (saysE_mo c) 18) (saysE_def c 18) (fun _ _ _ _ _ _ us hl => match us, hl with | [_], _ => rfl)
theorem h_F_is_chain_line (X : K.In h) (G : h.Ns mainGlobals mg) (c : obsE moL fnL K = valE fnL) : DefOf K mg "is_chain_line" s_is_chain_line P_is_chain_line := defOf_ X G (moF_fact (saysE_mo c) 19) (saysE_def c 19) (fun _ _ _ _ _ _ us hl => match us, hl with | [_, _], _ => rfl)
theorem h_F_way_of (X : K.In h) (G : h.Ns mainGlobals mg) (c : obsE moL fnL K = valE fnL) : DefOf K mg "way_of" s_way_of P_way_of := defOf_ X G (moF_fact (saysE_mo c) 20) (saysE_def c 20) (fun _ _ _ _ _ _ us hl => match us, hl with | [_, _], _ => rfl)
theorem h_F_read_map (X : K.In h) (G : h.Ns mainGlobals mg) (c : obsE moL fnL K = valE fnL) : DefOf K mg "read_map" s_read_map P_read_map := defOf_ X G (moF_fact (saysE_mo c) 21) (saysE_def c 21) (fun _ _ _ _ _ _ us hl => match us, hl with | [_], _ => rfl)
theorem h_F_through (X : K.In h) (G : h.Ns mainGlobals mg) (c : obsE moL fnL K = valE fnL) : DefOf K mg "through" s_through P_through := defOf_ X G (moF_fact (saysE_mo c) 22) (saysE_def c 22) (fun _ _ _ _ _ _ us hl => match us, hl with | [_, _, _], _ => rfl)
theorem h_F_reaches (X : K.In h) (G : h.Ns mainGlobals mg) (c : obsE moL fnL K = valE fnL) : DefOf K mg "reaches" s_reaches P_reaches := defOf_ X G (moF_fact (saysE_mo c) 23) (saysE_def c 23) (fun _ _ _ _ _ _ us hl => match us, hl with | [_, _], _ => rfl)
theorem h_F__law_pen (X : K.In h) (G : h.Ns mainGlobals mg) (c : obsE moL fnL K = valE fnL) : DefOf K mg "_law_pen" s__law_pen P__law_pen := defOf_ X G (moF_fact (saysE_mo c) 24) (saysE_def c 24) (fun _ _ _ _ _ _ us hl => match us, hl with | [_], _ => rfl)
theorem h_F__law_draw (X : K.In h) (G : h.Ns mainGlobals mg) (c : obsE moL fnL K = valE fnL) : DefOf K mg "_law_draw" s__law_draw P__law_draw := defOf_ X G (moF_fact (saysE_mo c) 25) (saysE_def c 25) (fun _ _ _ _ _ _ us hl => match us, hl with | [_, _], _ => rfl)
theorem h_F__law_pick (X : K.In h) (G : h.Ns mainGlobals mg) (c : obsE moL fnL K = valE fnL) : DefOf K mg "_law_pick" s__law_pick P__law_pick := defOf_ X G (moF_fact (saysE_mo c) 26) (saysE_def c 26) (fun _ _ _ _ _ _ us hl => match us, hl with | [_, _], _ => rfl)
theorem h_F__law_shuffled (X : K.In h) (G : h.Ns mainGlobals mg) (c : obsE moL fnL K = valE fnL) : DefOf K mg "_law_shuffled" s__law_shuffled P__law_shuffled := defOf_ X G (moF_fact (saysE_mo c) 27) (saysE_def c 27) (fun _ _ _ _ _ _ us hl => match us, hl with | [_, _], _ => rfl)
theorem h_F__law_barred (X : K.In h) (G : h.Ns mainGlobals mg) (c : obsE moL fnL K = valE fnL) : DefOf K mg "_law_barred" s__law_barred P__law_barred := defOf_ X G (moF_fact (saysE_mo c) 28) (saysE_def c 28) (fun _ _ _ _ _ _ us hl => match us, hl with | [], _ => rfl)
theorem h_F__law_names (X : K.In h) (G : h.Ns mainGlobals mg) (c : obsE moL fnL K = valE fnL) : DefOf K mg "_law_names" s__law_names P__law_names := defOf_ X G (moF_fact (saysE_mo c) 29) (saysE_def c 29) (fun _ _ _ _ _ _ us hl => match us, hl with | [_, _], _ => rfl)
theorem h_F__law_rings (X : K.In h) (G : h.Ns mainGlobals mg) (c : obsE moL fnL K = valE fnL) : DefOf K mg "_law_rings" s__law_rings P__law_rings := defOf_ X G (moF_fact (saysE_mo c) 30) (saysE_def c 30) (fun _ _ _ _ _ _ us hl => match us, hl with | [_], _ => rfl)
theorem h_F__law_period (X : K.In h) (G : h.Ns mainGlobals mg) (c : obsE moL fnL K = valE fnL) : DefOf K mg "_law_period" s__law_period P__law_period := defOf_ X G (moF_fact (saysE_mo c) 31) (saysE_def c 31) (fun _ _ _ _ _ _ us hl => match us, hl with | [_], _ => rfl)
theorem h_F__law_map (X : K.In h) (G : h.Ns mainGlobals mg) (c : obsE moL fnL K = valE fnL) : DefOf K mg "_law_map" s__law_map P__law_map := defOf_ X G (moF_fact (saysE_mo c) 32) (saysE_def c 32) (fun _ _ _ _ _ _ us hl => match us, hl with | [_, _, _], _ => rfl)
theorem h_F__law_map_text (X : K.In h) (G : h.Ns mainGlobals mg) (c : obsE moL fnL K = valE fnL) : DefOf K mg "_law_map_text" s__law_map_text P__law_map_text := defOf_ X G (moF_fact (saysE_mo c) 33) (saysE_def c 33) (fun _ _ _ _ _ _ us hl => match us, hl with | [_], _ => rfl)
theorem h_F_DaySet___init__ (X : K.In h) (G : h.Ns mainGlobals mg) (c : obsE moL fnL K = valE fnL) : MakOf K (ga K "DaySet") "DaySet.__init__" s_DaySet___init__ P_DaySet___init__ := makOf_ (moF_fact (saysE_mo c) 34) (saysE_def c 34) (fun _ _ _ _ _ _ us hl => match us, hl with | [_, _, _, _, _], _ => rfl)
theorem h_F_Map___init__ (X : K.In h) (G : h.Ns mainGlobals mg) (c : obsE moL fnL K = valE fnL) : MakOf K (ga K "Map") "Map.__init__" s_Map___init__ P_Map___init__ := makOf_ (moF_fact (saysE_mo c) 35) (saysE_def c 35) (fun _ _ _ _ _ _ us hl => match us, hl with | [_, _], _ => rfl)
theorem h_F_DaySet_sign (X : K.In h) (G : h.Ns mainGlobals mg) (c : obsE moL fnL K = valE fnL) : MetOf K (ga K "DaySet") "sign" "DaySet.sign" s_DaySet_sign P_DaySet_sign := metOf_ (moF_fact (saysE_mo c) 36) (saysE_def c 36) (fun _ _ _ _ _ _ us hl => match us, hl with | [_, _], _ => rfl)
theorem h_F_DaySet_days_in (X : K.In h) (G : h.Ns mainGlobals mg) (c : obsE moL fnL K = valE fnL) : MetOf K (ga K "DaySet") "days_in" "DaySet.days_in" s_DaySet_days_in P_DaySet_days_in := metOf_ (moF_fact (saysE_mo c) 37) (saysE_def c 37) (fun _ _ _ _ _ _ us hl => match us, hl with | [_, _, _], _ => rfl)
theorem h_F_DaySet_merged (X : K.In h) (G : h.Ns mainGlobals mg) (c : obsE moL fnL K = valE fnL) : MetOf K (ga K "DaySet") "merged" "DaySet.merged" s_DaySet_merged P_DaySet_merged := metOf_ (moF_fact (saysE_mo c) 38) (saysE_def c 38) (fun _ _ _ _ _ _ us hl => match us, hl with | [_, _, _], _ => rfl)
theorem h_F_DaySet___or__ (X : K.In h) (G : h.Ns mainGlobals mg) (c : obsE moL fnL K = valE fnL) : MetOf K (ga K "DaySet") "__or__" "DaySet.__or__" s_DaySet___or__ P_DaySet___or__ := metOf_ (moF_fact (saysE_mo c) 39) (saysE_def c 39) (fun _ _ _ _ _ _ us hl => match us, hl with | [_, _], _ => rfl)
theorem h_F_DaySet___sub__ (X : K.In h) (G : h.Ns mainGlobals mg) (c : obsE moL fnL K = valE fnL) : MetOf K (ga K "DaySet") "__sub__" "DaySet.__sub__" s_DaySet___sub__ P_DaySet___sub__ := metOf_ (moF_fact (saysE_mo c) 40) (saysE_def c 40) (fun _ _ _ _ _ _ us hl => match us, hl with | [_, _], _ => rfl)
theorem h_F_DaySet___bool__ (X : K.In h) (G : h.Ns mainGlobals mg) (c : obsE moL fnL K = valE fnL) : MetOf K (ga K "DaySet") "__bool__" "DaySet.__bool__" s_DaySet___bool__ P_DaySet___bool__ := metOf_ (moF_fact (saysE_mo c) 41) (saysE_def c 41) (fun _ _ _ _ _ _ us hl => match us, hl with | [_], _ => rfl)
theorem h_F_DaySet___str__ (X : K.In h) (G : h.Ns mainGlobals mg) (c : obsE moL fnL K = valE fnL) : MetOf K (ga K "DaySet") "__str__" "DaySet.__str__" s_DaySet___str__ P_DaySet___str__ := metOf_ (moF_fact (saysE_mo c) 42) (saysE_def c 42) (fun _ _ _ _ _ _ us hl => match us, hl with | [_], _ => rfl)
theorem h_F_DaySet___eq__ (X : K.In h) (G : h.Ns mainGlobals mg) (c : obsE moL fnL K = valE fnL) : MetOf K (ga K "DaySet") "__eq__" "DaySet.__eq__" s_DaySet___eq__ P_DaySet___eq__ := metOf_ (moF_fact (saysE_mo c) 43) (saysE_def c 43) (fun _ _ _ _ _ _ us hl => match us, hl with | [_, _], _ => rfl)
theorem h_F_DaySet___le__ (X : K.In h) (G : h.Ns mainGlobals mg) (c : obsE moL fnL K = valE fnL) : MetOf K (ga K "DaySet") "__le__" "DaySet.__le__" s_DaySet___le__ P_DaySet___le__ := metOf_ (moF_fact (saysE_mo c) 44) (saysE_def c 44) (fun _ _ _ _ _ _ us hl => match us, hl with | [_, _], _ => rfl)
theorem h_F_DaySet___neg__ (X : K.In h) (G : h.Ns mainGlobals mg) (c : obsE moL fnL K = valE fnL) : MetOf K (ga K "DaySet") "__neg__" "DaySet.__neg__" s_DaySet___neg__ P_DaySet___neg__ := metOf_ (moF_fact (saysE_mo c) 45) (saysE_def c 45) (fun _ _ _ _ _ _ us hl => match us, hl with | [_], _ => rfl)
theorem h_F_DaySet___add__ (X : K.In h) (G : h.Ns mainGlobals mg) (c : obsE moL fnL K = valE fnL) : MetOf K (ga K "DaySet") "__add__" "DaySet.__add__" s_DaySet___add__ P_DaySet___add__ := metOf_ (moF_fact (saysE_mo c) 46) (saysE_def c 46) (fun _ _ _ _ _ _ us hl => match us, hl with | [_, _], _ => rfl)
theorem h_F_DaySet_next_from (X : K.In h) (G : h.Ns mainGlobals mg) (c : obsE moL fnL K = valE fnL) : MetOf K (ga K "DaySet") "next_from" "DaySet.next_from" s_DaySet_next_from P_DaySet_next_from := metOf_ (moF_fact (saysE_mo c) 47) (saysE_def c 47) (fun _ _ _ _ _ _ us hl => match us, hl with | [_, _], _ => rfl)
theorem h_F_DaySet_last_until (X : K.In h) (G : h.Ns mainGlobals mg) (c : obsE moL fnL K = valE fnL) : MetOf K (ga K "DaySet") "last_until" "DaySet.last_until" s_DaySet_last_until P_DaySet_last_until := metOf_ (moF_fact (saysE_mo c) 48) (saysE_def c 48) (fun _ _ _ _ _ _ us hl => match us, hl with | [_, _], _ => rfl)
theorem h_F_DaySet_goes_up (X : K.In h) (G : h.Ns mainGlobals mg) (c : obsE moL fnL K = valE fnL) : MetOf K (ga K "DaySet") "goes_up" "DaySet.goes_up" s_DaySet_goes_up P_DaySet_goes_up := metOf_ (moF_fact (saysE_mo c) 49) (saysE_def c 49) (fun _ _ _ _ _ _ us hl => match us, hl with | [_], _ => rfl)
theorem h_F_DaySet_goes_down (X : K.In h) (G : h.Ns mainGlobals mg) (c : obsE moL fnL K = valE fnL) : MetOf K (ga K "DaySet") "goes_down" "DaySet.goes_down" s_DaySet_goes_down P_DaySet_goes_down := metOf_ (moF_fact (saysE_mo c) 50) (saysE_def c 50) (fun _ _ _ _ _ _ us hl => match us, hl with | [_], _ => rfl)
theorem h_F_DaySet_sums (X : K.In h) (G : h.Ns mainGlobals mg) (c : obsE moL fnL K = valE fnL) : MetOf K (ga K "DaySet") "sums" "DaySet.sums" s_DaySet_sums P_DaySet_sums := metOf_ (moF_fact (saysE_mo c) 51) (saysE_def c 51) (fun _ _ _ _ _ _ us hl => match us, hl with | [_], _ => rfl)
theorem h_F_Map_need (X : K.In h) (G : h.Ns mainGlobals mg) (c : obsE moL fnL K = valE fnL) : MetOfV K (ga K "Map") "need" "Map.need" s_Map_need "self" "names" := metOfV_ (moF_fact (saysE_mo c) 52) (saysE_def c 52) (fun _ _ _ _ _ _ u rest hl => match rest, hl with | [], _ => rfl | [_], _ => rfl | [_, _], _ => rfl | _ :: _ :: _ :: _, z => absurd z (by simp))
theorem h_F_Map_reach (X : K.In h) (G : h.Ns mainGlobals mg) (c : obsE moL fnL K = valE fnL) : MetOf K (ga K "Map") "reach" "Map.reach" s_Map_reach P_Map_reach := metOf_ (moF_fact (saysE_mo c) 53) (saysE_def c 53) (fun _ _ _ _ _ _ us hl => match us, hl with | [_, _, _], _ => rfl)
theorem h_F_DaySet_none (X : K.In h) (G : h.Ns mainGlobals mg) (c : obsE moL fnL K = valE fnL) : ClmOf K (ga K "DaySet") "none" "DaySet.none" s_DaySet_none P_DaySet_none := clmOf_ (moF_ex (saysE_mo c) 0) (moF_ex (saysE_mo c) 1) (saysE_def c 54) (fun _ _ _ _ _ _ us hl => match us, hl with | [_], _ => rfl)
theorem h_F_DaySet_of (X : K.In h) (G : h.Ns mainGlobals mg) (c : obsE moL fnL K = valE fnL) : ClmOf K (ga K "DaySet") "of" "DaySet.of" s_DaySet_of P_DaySet_of := clmOf_ (moF_ex (saysE_mo c) 0) (moF_ex (saysE_mo c) 2) (saysE_def c 55) (fun _ _ _ _ _ _ us hl => match us, hl with | [_, _], _ => rfl)
theorem h_G_DIGITS (X : K.In h) (G : h.Ns mainGlobals mg) (c : obsE moL fnL K = valE fnL) : ∃ u, mg "DIGITS" = some u ∧ L2.RelV (.str "0123456789") u := strG X G (moF_fact (saysE_mo c) 74)
theorem h_T (X : K.In h) (G : h.Ns mainGlobals mg) (c : obsE moL fnL K = valE fnL) : Txt K mg := { b_len := free_ok X G (moF_fact (saysE_mo c) 54), b_abs := free_ok X G (moF_fact (saysE_mo c) 55), b_int := free_ok X G (moF_fact (saysE_mo c) 56), b_str := free_ok X G (moF_fact (saysE_mo c) 57), b_min := free_ok X G (moF_fact (saysE_mo c) 58), b_max := free_ok X G (moF_fact (saysE_mo c) 59), b_range := free_ok X G (moF_fact (saysE_mo c) 60), b_all := free_ok X G (moF_fact (saysE_mo c) 61), b_any := free_ok X G (moF_fact (saysE_mo c) 62), b_isinstance := free_ok X G (moF_fact (saysE_mo c) 63), b_bool := free_ok X G (moF_fact (saysE_mo c) 64), b_list := free_ok X G (moF_fact (saysE_mo c) 65), b_enumerate := free_ok X G (moF_fact (saysE_mo c) 66), b_sorted := free_ok X G (moF_fact (saysE_mo c) 67), b_dict := free_ok X G (moF_fact (saysE_mo c) 68), b_repr := free_ok X G (moF_fact (saysE_mo c) 69), b_tuple := free_ok X G (moF_fact (saysE_mo c) 70), b_zip := free_ok X G (moF_fact (saysE_mo c) 71), b_sum := free_ok X G (moF_fact (saysE_mo c) 72), b_reversed := free_ok X G (moF_fact (saysE_mo c) 73) }
theorem h_D (X : K.In h) (G : h.Ns mainGlobals mg) (c : obsE moL fnL K = valE fnL) : DSC K mg (ga K "DaySet") := { cl := cls_ok (moF_fact (saysE_mo c) 75), c := glo_ok X G (moF_fact (saysE_mo c) 76), g := ⟨_, glo_ok X G (moF_fact (saysE_mo c) 76), rfl⟩, n_left := noat_ok (moF_fact (saysE_mo c) 77), n_low := noat_ok (moF_fact (saysE_mo c) 78), n_middle := noat_ok (moF_fact (saysE_mo c) 79), n_right := noat_ok (moF_fact (saysE_mo c) 80), n_high := noat_ok (moF_fact (saysE_mo c) 81), sf := (moF_ex (saysE_mo c) 3), ne := eqO_ok (moF_ex (saysE_mo c) 4), ob := of_decide_eq_true (moF_ex (saysE_mo c) 5), ha := eqO_ok (moF_ex (saysE_mo c) 6), hn := eqO_ok (moF_ex (saysE_mo c) 7), htk := of_decide_eq_true (moF_ex (saysE_mo c) 8), isi := of_decide_eq_true (moF_ex (saysE_mo c) 9), si := of_decide_eq_true (moF_ex (saysE_mo c) 10), r_rshift := eqO_ok (moF_ex (saysE_mo c) 11), r_lshift := eqO_ok (moF_ex (saysE_mo c) 12), i_rshift := eqO_ok (moF_ex (saysE_mo c) 13), i_lshift := eqO_ok (moF_ex (saysE_mo c) 14), i_rrshift := eqO_ok (moF_ex (saysE_mo c) 15), i_rlshift := eqO_ok (moF_ex (saysE_mo c) 16) }
theorem h_DM (X : K.In h) (G : h.Ns mainGlobals mg) (c : obsE moL fnL K = valE fnL) : DMC K mg (ga K "Map") := { cl := cls_ok (moF_fact (saysE_mo c) 82), c := glo_ok X G (moF_fact (saysE_mo c) 83), g := ⟨_, glo_ok X G (moF_fact (saysE_mo c) 83), rfl⟩, n_text := noat_ok (moF_fact (saysE_mo c) 84), n_chains := noat_ok (moF_fact (saysE_mo c) 85), n_ways := noat_ok (moF_fact (saysE_mo c) 86), n_sums := noat_ok (moF_fact (saysE_mo c) 87), ne := eqO_ok (moF_ex (saysE_mo c) 17), ob := of_decide_eq_true (moF_ex (saysE_mo c) 18), ha := eqO_ok (moF_ex (saysE_mo c) 19), hn := eqO_ok (moF_ex (saysE_mo c) 7), htk := of_decide_eq_true (moF_ex (saysE_mo c) 8), isi := of_decide_eq_true (moF_ex (saysE_mo c) 20) }
theorem h_NM (X : K.In h) (G : h.Ns mainGlobals mg) (c : obsE moL fnL K = valE fnL) : Names K mg (ga K "BARRED") := { bar := ⟨_, glo_ok X G (moF_fact (saysE_mo c) 88), rfl⟩, bt := fun H => tup_ok (moF_ex (saysE_mo c) 21) H, let_ := strG X G (moF_fact (saysE_mo c) 89), lng := intG X G (moF_fact (saysE_mo c) 90) }
theorem h_MC (X : K.In h) (G : h.Ns mainGlobals mg) (c : obsE moL fnL K = valE fnL) : MapC mg := { mc := intG X G (moF_fact (saysE_mo c) 91), mw := intG X G (moF_fact (saysE_mo c) 92), fa := intG X G (moF_fact (saysE_mo c) 93), ln := intG X G (moF_fact (saysE_mo c) 94), ww := intG X G (moF_fact (saysE_mo c) 95) }
end
theorem factsL {P : Program} {w : World} {K : PySem.W.Frag} {h : Heap} {mg : Str → Option Value} {f : Addr} (X : K.In h) (G : h.Ns mainGlobals mg) (hfa : mg ("law" : Str) = some (.ref f)) (c : obsE moL fnL K = valE fnL) :
    ∃ fd : FuncData, (∀ (s : Shared) (v : Value), BindsTo s fd ⟨[v], []⟩ [("_law_script", v)]) ∧ ∀ base : Heap, K.In base → base.Ns mainGlobals mg → (∀ p ∈ ([] : List (Addr × Addr)), LamX.TabB base mg p.1 p.2) → FnG P w K mg base 15 f fd ["_law_script"] (sp_law (K := K)) := by
  obtain ⟨fd, Fl, df, _⟩ := saysE_def c 56 (d := dG "law" s_law) rfl
  have e := hfa.symm.trans (glo_ok X G (moF_fact (saysE_mo c) 96 (f := .glo "law") rfl))
  cases e
  have b : ∀ (s : Shared) (v : Value), BindsTo s fd ⟨[v], []⟩ [("_law_script", v)] := by
    obtain ⟨oc, od, dV, kV, doc, pm, an, cdv, ct, osl, rfl, _, _⟩ := Fl.ex
    have e2 : dV = .none := df
    subst e2
    exact fun s v => .of_eq rfl
  refine ⟨fd, b, fun base hb hG hTB => ?_⟩
  have F_divisor_of := h_F_divisor_of X G c
  have F_multiple_of := h_F_multiple_of X G c
  have F_root_of := h_F_root_of X G c
  have F_turned_row := h_F_turned_row X G c
  have F_bare_form := h_F_bare_form X G c
  have F_least_form := h_F_least_form X G c
  have F_first_of_rests := h_F_first_of_rests X G c
  have F_begun_sums := h_F_begun_sums X G c
  have F_whole_rests := h_F_whole_rests X G c
  have F_firsts_of := h_F_firsts_of X G c
  have F_set_of := h_F_set_of X G c
  have F_sum_of := h_F_sum_of X G c
  have F_least_sums := h_F_least_sums X G c
  have F_star_of := h_F_star_of X G c
  have F_is_count := h_F_is_count X G c
  have F_is_number := h_F_is_number X G c
  have F_lines_of := h_F_lines_of X G c
  have F_words_of := h_F_words_of X G c
  have F_is_name := h_F_is_name X G c
  have F_is_chain_line := h_F_is_chain_line X G c
  have F_way_of := h_F_way_of X G c
  have F_read_map := h_F_read_map X G c
  have F_through := h_F_through X G c
  have F_reaches := h_F_reaches X G c
  have F__law_pen := h_F__law_pen X G c
  have F__law_draw := h_F__law_draw X G c
  have F__law_pick := h_F__law_pick X G c
  have F__law_shuffled := h_F__law_shuffled X G c
  have F__law_barred := h_F__law_barred X G c
  have F__law_names := h_F__law_names X G c
  have F__law_rings := h_F__law_rings X G c
  have F__law_period := h_F__law_period X G c
  have F__law_map := h_F__law_map X G c
  have F__law_map_text := h_F__law_map_text X G c
  have F_DaySet___init__ := h_F_DaySet___init__ X G c
  have F_Map___init__ := h_F_Map___init__ X G c
  have F_DaySet_sign := h_F_DaySet_sign X G c
  have F_DaySet_days_in := h_F_DaySet_days_in X G c
  have F_DaySet_merged := h_F_DaySet_merged X G c
  have F_DaySet___or__ := h_F_DaySet___or__ X G c
  have F_DaySet___sub__ := h_F_DaySet___sub__ X G c
  have F_DaySet___bool__ := h_F_DaySet___bool__ X G c
  have F_DaySet___str__ := h_F_DaySet___str__ X G c
  have F_DaySet___eq__ := h_F_DaySet___eq__ X G c
  have F_DaySet___le__ := h_F_DaySet___le__ X G c
  have F_DaySet___neg__ := h_F_DaySet___neg__ X G c
  have F_DaySet___add__ := h_F_DaySet___add__ X G c
  have F_DaySet_next_from := h_F_DaySet_next_from X G c
  have F_DaySet_last_until := h_F_DaySet_last_until X G c
  have F_DaySet_goes_up := h_F_DaySet_goes_up X G c
  have F_DaySet_goes_down := h_F_DaySet_goes_down X G c
  have F_DaySet_sums := h_F_DaySet_sums X G c
  have F_Map_need := h_F_Map_need X G c
  have F_Map_reach := h_F_Map_reach X G c
  have F_DaySet_none := h_F_DaySet_none X G c
  have F_DaySet_of := h_F_DaySet_of X G c
  have G_DIGITS := h_G_DIGITS X G c
  have T := h_T X G c
  have D := h_D X G c
  have DM := h_DM X G c
  have NM := h_NM X G c
  have MC := h_MC X G c
  have C_divisor_of := c_divisor_of (P := P) (w := w) (base := base) T F_divisor_of
  have C_multiple_of := c_multiple_of (P := P) (w := w) (base := base) T F_multiple_of C_divisor_of
  have C_root_of := c_root_of (P := P) (w := w) (base := base) T F_root_of
  have C_turned_row := c_turned_row (P := P) (w := w) (base := base) T F_turned_row
  have C_bare_form := c_bare_form (P := P) (w := w) (base := base) T F_bare_form C_turned_row
  have C_least_form := c_least_form (P := P) (w := w) (base := base) T F_least_form C_root_of C_turned_row C_bare_form
  have M_DaySet := k_init (P := P) (w := w) (base := base) T D F_DaySet___init__ C_least_form
  have Q_sign := q_sign (P := P) (w := w) (base := base) T D F_DaySet_sign
  have Q_days_in := q_days_in (P := P) (w := w) (base := base) T D F_DaySet_days_in Q_sign
  have Q_merged := q_merged (P := P) (w := w) (base := base) T D F_DaySet_merged Q_sign C_multiple_of M_DaySet
  have Q_or := q_or (P := P) (w := w) (base := base) T D F_DaySet___or__ Q_merged
  have Q_sub := q_sub (P := P) (w := w) (base := base) T D F_DaySet___sub__ Q_merged
  have Q_str := q_str (P := P) (w := w) (base := base) T D F_DaySet___str__
  have Q_bool := q_bool (P := P) (w := w) (base := base) T D F_DaySet___bool__
  have Q_eq := q_eq (P := P) (w := w) (base := base) T D F_DaySet___eq__ Q_str
  have Q_neg := q_neg (P := P) (w := w) (base := base) T D F_DaySet___neg__ M_DaySet
  have K_none := q_none (P := P) (w := w) (base := base) T D F_DaySet_none M_DaySet
  have Q_le := q_le (P := P) (w := w) (base := base) T D F_DaySet___le__ Q_sub Q_bool
  have C_first := c_first (P := P) (w := w) (base := base) T F_first_of_rests
  have C_begun := c_begun (P := P) (w := w) (base := base) T D F_begun_sums Q_days_in C_first
  have C_whole := c_whole (P := P) (w := w) (base := base) T D F_whole_rests Q_days_in
  have C_firsts := c_firsts (P := P) (w := w) (base := base) T F_firsts_of C_begun C_first
  have C_set_of := c_set_of (P := P) (w := w) (base := base) T D F_set_of M_DaySet
  have C_sum_of := c_sum_of (P := P) (w := w) (base := base) (T := T) (D := D) (F := F_sum_of) (C_multiple_of := C_multiple_of) (Q_DaySet_days_in := Q_days_in) (C_firsts_of := C_firsts) (C_whole_rests := C_whole) (Q_DaySet___neg__ := Q_neg) (C_set_of := C_set_of)
  have Q_add := q_add (P := P) (w := w) (base := base) T D F_DaySet___add__ C_sum_of
  have Q_next := q_next (P := P) (w := w) (base := base) T D F_DaySet_next_from Q_days_in
  have Q_last := q_last (P := P) (w := w) (base := base) T D F_DaySet_last_until Q_next Q_neg
  have C_least := c_least (P := P) (w := w) (base := base) T D F_least_sums C_multiple_of Q_days_in C_first
  have Q_up := q_goes_up (P := P) (w := w) (base := base) T D F_DaySet_goes_up
  have Q_dn := q_goes_down (P := P) (w := w) (base := base) T D F_DaySet_goes_down
  have K_of := q_of (P := P) (w := w) (base := base) T D F_DaySet_of M_DaySet
  have C_star0 := c_vac (P := P) (w := w) (base := base) F_star_of
  have C_star1 := c_star (P := P) (w := w) (base := base) (j := 7) (k := 1) (e := 0) (cond := fun f => ∃ d, 0 < d ∧ f d = true) (by decide) (by decide) (by decide) (by decide) (.inl fun _ h => h) (T := T) (D := D) (F := F_star_of) (C_star_of := C_star0) (Q_DaySet_next_from := Q_next) (Q_DaySet_last_until := Q_last) (K_DaySet_of := K_of) (Q_DaySet___neg__ := Q_neg) (Q_DaySet_days_in := Q_days_in) (Q_DaySet_goes_up := Q_up) (Q_DaySet_goes_down := Q_dn) (C_divisor_of := C_divisor_of) (C_set_of := C_set_of) (C_least_sums := C_least)
  have C_star := c_star (P := P) (w := w) (base := base) (j := 8) (k := 8) (e := 1) (cond := fun _ => True) (by decide) (by decide) (by decide) (by decide) (.inr ⟨rfl, fun _ _ _ _ h => h⟩) (T := T) (D := D) (F := F_star_of) (C_star_of := C_star1) (Q_DaySet_next_from := Q_next) (Q_DaySet_last_until := Q_last) (K_DaySet_of := K_of) (Q_DaySet___neg__ := Q_neg) (Q_DaySet_days_in := Q_days_in) (Q_DaySet_goes_up := Q_up) (Q_DaySet_goes_down := Q_dn) (C_divisor_of := C_divisor_of) (C_set_of := C_set_of) (C_least_sums := C_least)
  have Q_sums := q_sums (P := P) (w := w) (base := base) (fun vs H Q E h => by obtain ⟨_, _, _, _, _, rfl, _⟩ := h; rfl) (fun _ _ _ _ _ h => h) T D F_DaySet_sums C_star
  have C_iscount := c_is_count (P := P) (w := w) (base := base) T G_DIGITS F_is_count
  have C_isnumber := c_is_number (P := P) (w := w) (base := base) T F_is_number C_iscount
  have C_pen := c_pen (P := P) (w := w) (base := base) T F__law_pen
  have C_draw := c_draw (P := P) (w := w) (base := base) T F__law_draw
  have C_pick := c_pick (P := P) (w := w) (base := base) T F__law_pick C_draw
  have C_shuffled := c_shuffled (P := P) (w := w) (base := base) T F__law_shuffled C_draw
  have C_barred := c_barred (P := P) (w := w) (base := base) T F__law_barred
  have C_names := c_names (P := P) (w := w) (base := base) T F__law_names C_draw C_pick C_barred C_shuffled
  have C_lines := c_lines (P := P) (w := w) (base := base) T F_lines_of
  have C_words := c_words (P := P) (w := w) (base := base) T F_words_of
  have C_isname := c_isname (P := P) (w := w) (base := base) T NM F_is_name
  have C_chainl := c_chainl (P := P) (w := w) (base := base) T MC F_is_chain_line C_isname
  have C_wayof := c_wayof (P := P) (w := w) (base := base) T MC F_way_of C_isnumber
  have C_readmap := c_readmap (P := P) (w := w) (base := base) T MC F_read_map C_lines C_words C_chainl C_wayof
  have C_through := c_through (P := P) (w := w) (base := base) T D F_through Q_sums Q_add Q_or
  have C_reaches := c_reaches (P := P) (w := w) (base := base) T D F_reaches C_through K_of Q_or
  have M_Map := k_minit (P := P) (w := w) (base := base) T DM F_Map___init__ C_readmap C_reaches
  have Q_need := q_need (P := P) (w := w) (base := base) (C := ga K "DaySet") T DM F_Map_need
  have Q_reach := q_reach (P := P) (w := w) (base := base) T DM F_Map_reach Q_need
  have C_rings := c_rings (P := P) (w := w) (base := base) T F__law_rings
  have C_period := c_period (P := P) (w := w) (base := base) T F__law_period C_rings
  have C_lmap := c_lmap (P := P) (w := w) (base := base) T F__law_map C_draw C_pick C_names C_period
  have C_lmtext := c_lmtext (P := P) (w := w) (base := base) T F__law_map_text
  exact ok_law T D DM Fl C_pen C_lmap C_lmtext C_shuffled M_Map Q_reach Q_eq Q_neg
end Od
open PySem PySem.W PySem.Calls PyProof.Rows
set_option maxRecDepth 100000 in
set_option maxHeartbeats 0 in
theorem PySem.Challenge.cw_onewaydays_k14_whole_maps_turned_holds : PySem.Challenge.rw_onewaydays_k14_whole_maps_turned.Holds := by
  w_on; o_law
  refine HandSHeadRun.head_any (r := OpenLaw.row PySem.Challenge.rw_onewaydays_k14_whole_maps_turned) (q := view (OpenLaw.row PySem.Challenge.rw_onewaydays_k14_whole_maps_turned).prog [57]) (H := Od.hkL) (ob := Od.obL) (M := 7000) (loose := Od.namesL) (d := HandSHeadRun.topDef (OpenLaw.row PySem.Challenge.rw_onewaydays_k14_whole_maps_turned).prog 57) (kwd := []) Od.obL_eq
    (by kernel_rfl) (fun s => by kernel_rfl) Od.runL (by kernel_rfl) (by kernel_rfl) (by kernel_rfl) (by rfl) (by first | assumption | decide +kernel) (by decide +kernel) ⟨rfl, rfl, rfl, rfl, rfl, by decide +kernel⟩ ?hw ?hc
  case hw => w_witness2
  case hc =>
    refine Od.walk_ofG (l := PySem.Challenge.rw_onewaydays_k14_whole_maps_turned) (n := 63) (k := 15) (x := "_law_script") rfl (by decide) (by kernel_rfl) ⟨rfl, by decide, by decide⟩ ?F
    intro w mg fa h Y G hmg0
    obtain ⟨K, KX, nlt, c, ts⟩ := Y
    have hmg : mg ("law" : PySem.Str) = some (.ref fa) := by
      have e : (HandSHeadRun.topDef (OpenLaw.row PySem.Challenge.rw_onewaydays_k14_whole_maps_turned).prog 57).name = ("law" : PySem.Str) := by kernel_rfl
      rw [← e]
      exact hmg0
    obtain ⟨fd, hb, hF⟩ := Od.factsL (P := (PySem.Challenge.rw_onewaydays_k14_whole_maps_turned).prog) (w := w) KX G hmg c
    exact ⟨K, fd, [], Od.sp_law (K := K), KX, nlt, (fun p hp => nomatch hp), (fun p hp => nomatch hp), hb, fun H a ns hl hT hS => ⟨a, ns, rfl, hS, hl, fun _ => rfl⟩, hF⟩
