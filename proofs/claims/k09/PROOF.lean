import PyProof.Rows.All
import Wide.All
import OpenK.AllK
import Wide.FinOn
import HandS.ForMost
import HandS.ForExc
import HandS.IsInst
import HandS.TupSets
import HandS.TupAny
import HandS.Conv
import HandS.Codes
import HandS.Defaults
import HandS.Small
import HandS.Lambda
import HandS.EndTab
import KE.DatumOrd
import KE.SortData
import KE.DataAny
import PySem.Challenge.RW_lookspoil_k09_whole_sure_kinds_and_class
import KE.KStateDown
import HandS.Head0
import HandS.Head1
import HandS.Head2
import HandS.HeadEnd
import HandS.HeadHook1
import HandS.HeadHook2
import HandS.HeadHook3
import HandS.HeadHook4
import HandS.HeadWalk
set_option Elab.async false
set_option linter.all false
set_option maxRecDepth 100000
set_option maxHeartbeats 0
/-! Plain Lean: the class of a standing, by the round's least dividing period (the program) and by long rows (the law). -/
namespace K9
/-! ### order of rows -/
def lexLt : List Int → List Int → Bool
  | [], [] => false
  | [], _ :: _ => true
  | _ :: _, [] => false
  | x :: xs, y :: ys => decide (x < y) || (decide (x = y) && lexLt xs ys)
theorem lexLt_irr : ∀ xs : List Int, lexLt xs xs = false
  | [] => rfl
  | x :: xs => by
    unfold lexLt
    simp [lexLt_irr xs]
theorem lexLt_conn : ∀ xs ys : List Int, lexLt xs ys = false → lexLt ys xs = false → xs = ys
  | [], [], _, _ => rfl
  | [], _ :: _, h, _ => by simp [lexLt] at h
  | _ :: _, [], _, h => by simp [lexLt] at h
  | x :: xs, y :: ys, h1, h2 => by
    unfold lexLt at h1 h2
    simp only [Bool.or_eq_false_iff, Bool.and_eq_false_iff, decide_eq_false_iff_not] at h1 h2
    have e : x = y := by omega
    subst e
    have e2 := lexLt_conn xs ys (by rcases h1.2 with h | h; exact absurd rfl h; exact h) (by rcases h2.2 with h | h; exact absurd rfl h; exact h)
    rw [e2]

/-! ### periods of an endless row -/
/-- l is a period of f -/
def Per (f : Nat → Int) (l : Nat) : Prop := ∀ i, f (i + l) = f i
theorem Per.mul {f : Nat → Int} {l : Nat} (h : Per f l) : ∀ (k i : Nat), f (i + k * l) = f i
  | 0, i => by simp
  | k + 1, i => by
    rw [Nat.succ_mul, ← Nat.add_assoc, h, Per.mul h k i]
theorem Per.mod {f : Nat → Int} {l : Nat} (h : Per f l) (i : Nat) : f (i % l) = f i := by
  have e := h.mul (i / l) (i % l)
  rw [← e]
  congr 1
  rw [Nat.mul_comm]
  exact Nat.mod_add_div i l
theorem Per.modAdd {f : Nat → Int} {l : Nat} (h : Per f l) (i j : Nat) : f (i % l + j) = f (i + j) := by
  have e := h.mul (i / l) (i % l + j)
  rw [← e]
  congr 1
  have := Nat.mod_add_div i l
  rw [Nat.mul_comm] at this
  omega
/-- the least period divides each period -/
theorem least_dvd {f : Nat → Int} {p m : Nat} (hp : 0 < p) (hP : Per f p) (hM : Per f m) (least : ∀ q, 0 < q → q < p → ¬ Per f q) : m % p = 0 := by
  by_cases h : m % p = 0
  · exact h
  · exfalso
    refine least (m % p) (Nat.pos_of_ne_zero h) (Nat.mod_lt _ hp) fun i => ?_
    have e := hP.mul (m / p) (i + m % p)
    rw [← e]
    have e2 := hM i
    rw [← e2]
    congr 1
    have := Nat.mod_add_div m p
    rw [Nat.mul_comm] at this
    omega
/-- the row of n answers from i on -/
def cut (f : Nat → Int) (i n : Nat) : List Int := (List.range n).map fun j => f (i + j)
theorem cut_len (f : Nat → Int) (i n : Nat) : (cut f i n).length = n := by simp [cut]
theorem cut_get {f : Nat → Int} {i n j : Nat} (h : j < n) : (cut f i n)[j]? = some (f (i + j)) := by
  simp [cut, h]
theorem cut_drop (f : Nat → Int) (i n k : Nat) : (cut f i n).drop k = cut f (i + k) (n - k) := by
  apply List.ext_getElem?
  intro j
  rw [List.getElem?_drop]
  by_cases h : k + j < n
  · rw [cut_get h, cut_get (by omega), Nat.add_assoc]
  · rw [List.getElem?_eq_none (by rw [cut_len]; omega), List.getElem?_eq_none (by rw [cut_len]; omega)]
theorem cut_take (f : Nat → Int) (i n k : Nat) : (cut f i n).take k = cut f i (min k n) := by
  apply List.ext_getElem?
  intro j
  rw [List.getElem?_take]
  by_cases h : j < k
  · rw [if_pos h]
    by_cases h2 : j < n
    · rw [cut_get h2, cut_get (by omega)]
    · rw [List.getElem?_eq_none (by rw [cut_len]; omega), List.getElem?_eq_none (by rw [cut_len]; omega)]
  · rw [if_neg h, List.getElem?_eq_none (by rw [cut_len]; omega)]
theorem cut_eq {f g : Nat → Int} {i k n : Nat} : cut f i n = cut g k n ↔ ∀ j, j < n → f (i + j) = g (k + j) := by
  constructor
  · intro h j hj
    have e := congrArg (fun l => l[j]?) h
    simp only [cut_get hj] at e
    exact Option.some.inj e
  · intro h
    apply List.ext_getElem?
    intro j
    by_cases hj : j < n
    · rw [cut_get hj, cut_get hj, h j hj]
    · rw [List.getElem?_eq_none (by rw [cut_len]; omega), List.getElem?_eq_none (by rw [cut_len]; omega)]
theorem cut_app (f : Nat → Int) (i n m : Nat) : cut f i n ++ cut f (i + n) m = cut f i (n + m) := by
  apply List.ext_getElem?
  intro j
  by_cases h : j < n
  · rw [List.getElem?_append_left (by rw [cut_len]; exact h), cut_get h, cut_get (by omega)]
  · rw [List.getElem?_append_right (by rw [cut_len]; omega), cut_len]
    by_cases h2 : j < n + m
    · rw [cut_get (by omega), cut_get h2]
      congr 2
      omega
    · rw [List.getElem?_eq_none (by rw [cut_len]; omega), List.getElem?_eq_none (by rw [cut_len]; omega)]

/-! ### what both say of their answer -/
/-- r is the least of the rows of length l that begin at i, i + 1, .., i + l - 1; l is the least period -/
structure Cls (f : Nat → Int) (b : Nat) (r : List Int) : Prop where
  is : ∃ l, 0 < l ∧ Per f l ∧ (∀ q, 0 < q → q < l → ¬ Per f q) ∧ (∃ a, a < l ∧ r = cut f (b + a) l) ∧ ∀ a, a < l → lexLt (cut f (b + a) l) r = false
theorem cut_turn {f : Nat → Int} {l : Nat} (h : Per f l) (hl : 0 < l) (b c a : Nat) : ∃ a', a' < l ∧ cut f (b + a) l = cut f (c + a') l := by
  -- a' with c + a' ≡ b + a mod l
  refine ⟨(b + a + (l - 1) * c) % l, Nat.mod_lt _ hl, cut_eq.mpr fun j _ => ?_⟩
  have e1 := h.modAdd (b + a + (l - 1) * c) (c + j)
  have e2 : c + (b + a + (l - 1) * c) % l + j = (b + a + (l - 1) * c) % l + (c + j) := by omega
  rw [e2, e1]
  have e3 : b + a + (l - 1) * c + (c + j) = b + a + j + c * l := by
    obtain ⟨k, rfl⟩ : ∃ k, l = k + 1 := ⟨l - 1, by omega⟩
    have : (k + 1 - 1) * c = k * c := by simp
    rw [this, Nat.mul_succ, Nat.mul_comm k c]
    omega
  rw [e3, h.mul]
/-- whatever place is begun at, the class is one -/
theorem Cls.one {f : Nat → Int} {b c : Nat} {r t : List Int} (x : Cls f b r) (y : Cls f c t) : r = t := by
  obtain ⟨l, l0, lp, ll, ⟨a, ha, ra⟩, lm⟩ := x.is
  obtain ⟨k, k0, kp, kl, ⟨d, hd, td⟩, km⟩ := y.is
  have e : l = k := by
    rcases Nat.lt_trichotomy l k with h | h | h
    · exact absurd lp (kl l l0 h)
    · exact h
    · exact absurd kp (ll k k0 h)
  subst e
  obtain ⟨a', ha', e1⟩ := cut_turn lp l0 b c a
  obtain ⟨d', hd', e2⟩ := cut_turn lp l0 c b d
  refine lexLt_conn r t ?_ ?_
  · rw [ra, e1]
    exact km a' ha'
  · rw [td, e2]
    exact lm d' hd'
/-- a class seen from a later beginning -/
theorem Per.shift {f : Nat → Int} {m : Nat} (hm : 0 < m) (h : Per f m) (c l : Nat) : Per (fun i => f (c + i)) l ↔ Per f l := by
  constructor
  · intro p i
    have e1 := h.mul c (i + l)
    have e2 := h.mul c i
    have e3 := p (i + c * m - c)
    have hc : c ≤ i + c * m := by
      have := Nat.le_mul_of_pos_right c hm
      omega
    simp only at e3
    have q1 : c + (i + c * m - c + l) = i + l + c * m := by omega
    have q2 : c + (i + c * m - c) = i + c * m := by omega
    rw [q1, q2, e1, e2] at e3
    exact e3
  · intro p i
    show f (c + (i + l)) = f (c + i)
    rw [← Nat.add_assoc]
    exact p (c + i)
theorem cut_shift (f : Nat → Int) (c i n : Nat) : cut (fun j => f (c + j)) i n = cut f (c + i) n := by
  unfold cut
  apply List.map_congr_left
  intro j _
  show f (c + (i + j)) = f (c + i + j)
  rw [Nat.add_assoc]
theorem Cls.shift {f : Nat → Int} {m c : Nat} (hm : 0 < m) (h : Per f m) {r : List Int} (x : Cls (fun i => f (c + i)) 0 r) : Cls f c r := by
  obtain ⟨l, l0, lp, ll, ⟨a, ha, ra⟩, lm⟩ := x.is
  refine ⟨l, l0, (h.shift hm c l).mp lp, fun q q0 ql p => ll q q0 ql ((h.shift hm c q).mpr p), ⟨a, ha, ?_⟩, fun a ha => ?_⟩
  · rw [ra, cut_shift, Nat.zero_add]
  · have e := lm a ha
    rw [cut_shift, Nat.zero_add] at e
    exact e

/-! ### the program's round -/
/-- what the program's search answers on a round -/
structure Short (row r : List Int) : Prop where
  is : ∃ l, 0 < l ∧ l ≤ row.length ∧ row.length % l = 0 ∧ row.drop l ++ row.take l = row ∧ (∀ q, 0 < q → q < l → row.length % q = 0 → row.drop q ++ row.take q ≠ row) ∧
    (∃ a, a < l ∧ r = (row.take l).drop a ++ row.take a) ∧ ∀ a, a < l → lexLt ((row.take l).drop a ++ row.take a) r = false
theorem rot_per {h : Nat → Int} {m l : Nat} (hm : 0 < m) (hM : Per h m) (hl : l ≤ m) : (cut h 0 m).drop l ++ (cut h 0 m).take l = cut h 0 m ↔ Per h l := by
  have e1 : (cut h 0 m).drop l ++ (cut h 0 m).take l = cut h l m := by
    rw [cut_drop, cut_take, Nat.min_eq_left hl]
    have e2 : cut h 0 l = cut h (0 + l + (m - l)) l := cut_eq.mpr fun j _ => by
      have e := hM (0 + j)
      rw [← e]
      congr 1
      omega
    rw [e2, cut_app]
    congr 1
    · omega
    · omega
  rw [e1, cut_eq]
  constructor
  · intro hh i
    have e2 := hM.modAdd i l
    have e3 := hh (i % m) (Nat.mod_lt _ hm)
    rw [← e2, ← hM.mod i, Nat.add_comm, e3, Nat.zero_add]
  · intro p j _
    rw [Nat.add_comm, p, Nat.zero_add]
theorem exists_least (f : Nat → Int) : ∀ q, 0 < q → Per f q → ∃ p, 0 < p ∧ p ≤ q ∧ Per f p ∧ ∀ k, 0 < k → k < p → ¬ Per f k := by
  intro q
  induction q using Nat.strongRecOn with
  | ind q ih =>
    intro h0 hP
    by_cases h : ∃ k, 0 < k ∧ k < q ∧ Per f k
    · obtain ⟨k, k0, kq, kp⟩ := h
      obtain ⟨p, a, b, c, d⟩ := ih k kq k0 kp
      exact ⟨p, a, by omega, c, d⟩
    · exact ⟨q, h0, Nat.le_refl _, hP, fun k k0 kq kp => h ⟨k, k0, kq, kp⟩⟩
theorem Short.cls {h : Nat → Int} {m : Nat} {r : List Int} (hm : 0 < m) (hM : Per h m) (x : Short (cut h 0 m) r) : Cls h 0 r := by
  obtain ⟨l, l0, lm, lr, le, lq, ⟨a, ha, ra⟩, lmin⟩ := x.is
  rw [cut_len] at lm
  have lp : Per h l := (rot_per hm hM lm).mp le
  have rot : ∀ a, a < l → ((cut h 0 m).take l).drop a ++ (cut h 0 m).take a = cut h a l := fun a ha => by
    rw [cut_take, cut_take, cut_drop, Nat.min_eq_left lm, Nat.min_eq_left (by omega)]
    have e2 : cut h 0 a = cut h (0 + a + (l - a)) a := cut_eq.mpr fun j _ => by
      have e := lp (0 + j)
      rw [← e]
      congr 1
      omega
    rw [e2, cut_app]
    congr 1
    · omega
    · omega
  refine ⟨l, l0, lp, fun q q0 ql qp => ?_, ⟨a, ha, ?_⟩, fun a ha => ?_⟩
  · obtain ⟨p, p0, pq, pp, pl⟩ := exists_least h q q0 qp
    have pd := least_dvd p0 pp hM pl
    exact lq p p0 (by omega) (by rw [cut_len]; exact pd) ((rot_per hm hM (by omega)).mpr pp)
  · rw [ra, rot a ha, Nat.zero_add]
  · rw [Nat.zero_add, ← rot a ha]
    exact lmin a ha

/-! ### the law's long row -/
structure Long (row r : List Int) : Prop where
  is : ∃ l, 0 < l ∧ l ≤ 8 ∧ row.drop l = row.take (48 - l) ∧ (∀ q, 0 < q → q < l → row.drop q ≠ row.take (48 - q)) ∧
    (∃ a, a < l ∧ r = (row.take (a + l)).drop a) ∧ ∀ a, a < l → lexLt ((row.take (a + l)).drop a) r = false
theorem long_per {g : Nat → Int} {m l : Nat} (hm : 0 < m) (m8 : m ≤ 8) (hM : Per g m) (l8 : l ≤ 8) : (cut g 0 48).drop l = (cut g 0 48).take (48 - l) ↔ Per g l := by
  rw [cut_drop, cut_take, Nat.min_eq_left (by omega), cut_eq]
  constructor
  · intro hh i
    have e2 := hM.modAdd i l
    have lt := Nat.mod_lt i hm
    have e3 := hh (i % m) (by omega)
    rw [← e2, ← hM.mod i]
    rw [Nat.zero_add, Nat.zero_add, Nat.add_comm] at e3
    exact e3
  · intro p j _
    rw [Nat.zero_add, Nat.zero_add, Nat.add_comm, p]
theorem Long.cls {g : Nat → Int} {m : Nat} {r : List Int} (hm : 0 < m) (m8 : m ≤ 8) (hM : Per g m) (x : Long (cut g 0 48) r) : Cls g 0 r := by
  obtain ⟨l, l0, l8, le, lq, ⟨a, ha, ra⟩, lmin⟩ := x.is
  have lp : Per g l := (long_per hm m8 hM l8).mp le
  have rot : ∀ a, a < l → ((cut g 0 48).take (a + l)).drop a = cut g a l := fun a ha => by
    rw [cut_take, cut_drop, Nat.min_eq_left (by omega)]
    congr 1
    · omega
    · omega
  refine ⟨l, l0, lp, fun q q0 ql qp => ?_, ⟨a, ha, ?_⟩, fun a ha => ?_⟩
  · exact lq q q0 ql ((long_per hm m8 hM (by omega)).mpr qp)
  · rw [ra, rot a ha, Nat.zero_add]
  · rw [Nat.zero_add, ← rot a ha]
    exact lmin a ha

/-! ### a sure kind's looks -/
def nxt (L : List (Int × Int)) (s : Nat) : Nat := match L[s]? with
  | some p => p.2.toNat
  | none => 0
def ans (L : List (Int × Int)) (s : Nat) : Int := match L[s]? with
  | some p => p.1
  | none => 0
/-- the standing behind k looks -/
def wk (L : List (Int × Int)) (s : Nat) : Nat → Nat
  | 0 => s
  | k + 1 => nxt L (wk L s k)
theorem wk_add (L : List (Int × Int)) (s a : Nat) : ∀ b, wk L s (a + b) = wk L (wk L s a) b
  | 0 => rfl
  | b + 1 => by
    show nxt L (wk L s (a + b)) = nxt L (wk L (wk L s a) b)
    rw [wk_add L s a b]
/-- the looks of a sure kind: each leads to a standing -/
def Ok (L : List (Int × Int)) : Prop := ∀ p ∈ L, 0 ≤ p.2 ∧ p.2 < (L.length : Int)
theorem at_ok {L : List (Int × Int)} {s : Nat} (h : s < L.length) : L[s]? = some (ans L s, (L[s]'h).2) ∧ (L[s]'h).2.toNat = nxt L s := by
  have e : L[s]? = some (L[s]'h) := List.getElem?_eq_getElem h
  unfold ans nxt
  rw [e]
  exact ⟨rfl, rfl⟩
theorem nxt_at {L : List (Int × Int)} {s : Nat} (ok : Ok L) (h : s < L.length) : L[s]? = some (ans L s, (nxt L s : Int)) ∧ nxt L s < L.length := by
  obtain ⟨e1, e2⟩ := at_ok h
  have q := ok (L[s]'h) (List.getElem_mem h)
  rw [e1]
  refine ⟨?_, ?_⟩
  · congr 2
    omega
  · omega
theorem wk_lt {L : List (Int × Int)} {s : Nat} (ok : Ok L) (h : s < L.length) : ∀ k, wk L s k < L.length
  | 0 => h
  | k + 1 => (nxt_at ok (wk_lt ok h k)).2
/-- the answers from s on -/
def row (L : List (Int × Int)) (s : Nat) (i : Nat) : Int := ans L (wk L s i)
/-- the program's answer -/
def Prog (L : List (Int × Int)) (s : Nat) (r : List Int) : Prop := ∃ b t, b < t ∧ t ≤ 8 ∧ wk L s b = wk L s t ∧ Short (cut (row L s) b (t - b)) r
/-- the law's answer -/
def Law (L : List (Int × Int)) (s : Nat) (r : List Int) : Prop :=
  Long (cut (row L s) 16 48) r ∨ ((∀ l, 0 < l → l ≤ 8 → (cut (row L s) 16 48).drop l ≠ (cut (row L s) 16 48).take (48 - l)) ∧ r = [])
theorem same {L : List (Int × Int)} {s : Nat} {r t : List Int} (x : Prog L s r) (y : Law L s t) : r = t := by
  obtain ⟨b, e, hb, he, hw, sh⟩ := x
  have m0 : 0 < e - b := by omega
  have hM : Per (fun i => row L s (b + i)) (e - b) := fun i => by
    show ans L (wk L s (b + (i + (e - b)))) = ans L (wk L s (b + i))
    have q : b + (i + (e - b)) = e + i := by omega
    rw [q, wk_add, wk_add, hw]
  have q0 : cut (fun i => row L s (b + i)) 0 (e - b) = cut (row L s) b (e - b) := by rw [cut_shift]; rfl
  have q1 : cut (fun i => row L s (b + (16 - b + i))) 0 48 = cut (row L s) 16 48 := by
    have z := cut_shift (fun i => row L s (b + i)) (16 - b) 0 48
    rw [cut_shift] at z
    rw [z]
    congr 1
    omega
  rw [← q0] at sh
  have cp := sh.cls m0 hM
  have hM2 : Per (fun i => row L s (b + (16 - b + i))) (e - b) := fun i => by
    have z := hM (16 - b + i)
    simp only [Nat.add_assoc] at z ⊢
    exact z
  have cl : Long (cut (row L s) 16 48) t := by
    rcases y with y | ⟨y, _⟩
    · exact y
    · exfalso
      refine y (e - b) m0 (by omega) ?_
      rw [← q1]
      exact (long_per m0 (by omega) hM2 (by omega)).mpr hM2
  rw [← q1] at cl
  have cq := Long.cls m0 (by omega) hM2 cl
  exact cp.one (Cls.shift (f := fun i => row L s (b + i)) m0 hM cq)
/-- a list of unlike numbers below n has at most n -/
theorem pigeon : ∀ (n : Nat) (l : List Nat), l.Nodup → (∀ x ∈ l, x < n) → l.length ≤ n
  | 0, [], _, _ => Nat.le_refl _
  | 0, x :: _, _, h => absurd (h x List.mem_cons_self) (Nat.not_lt_zero _)
  | n + 1, l, nd, h => by
    have ih := pigeon n (l.erase n) (nd.erase n) fun x hx => by
      have q := (nd.mem_erase_iff).mp hx
      have := h x q.2
      have := q.1
      omega
    have := @List.length_erase _ _ _ n l
    split at this <;> omega
end K9

/-! the text by places, the data in the heap, a def known by name -/
namespace K9
open PySem PySem.Spec PyProof.Rows L2
/-! ### the text -/
def top (i : Nat) : Stmt := PySem.Challenge.pw_lookspoil_k09_whole_sure_kinds_and_class.main.body.getD i (.Pass ⟨0, 0, 0, 0⟩)
abbrev FnP (K : PySem.W.Frag) (x : Str) (st : Stmt) (f : Addr) (fd : FuncData) : Prop := FunD K x x (defArgs st) (defBody st) (defScope st) [] [] f fd
/-- a def of the module under its name -/
structure Known (K : PySem.W.Frag) (mg : Str → Option Value) (x : Str) (st : Stmt) : Prop where
  ex : ∃ (f : Addr) (fd : FuncData), FnP K x st f fd ∧ mg x = some (.ref f)
section
variable {P : Program} {w : World} {K : PySem.W.Frag} {mg : Str → Option Value} {base : Heap}
abbrev Cal (P : Program) (w : World) (K : PySem.W.Frag) (mg : Str → Option Value) (base : Heap) (k : Nat) (x : Str) (sp : Sp) : Prop := C8.Cal P w K mg base k x sp []
/-- a def that lets nothing out, by its body -/
theorem cal_of {x : Str} {st : Stmt} {N ps : List Str} {k : Nat} {sp : Sp} (F : Known K mg x st) (S : FnScope N ps (defScope st))
    (hb : ∀ (kV doc pm : Value) (an : Option Addr) (cdv ct : Value) (us : List Value), us.length = ps.length → bindArgs (PySem.W.fnOf x x (defArgs st) (defBody st) (defScope st) .none kV doc pm an cdv ct) ⟨us, []⟩ = pure (ps.zip us))
    (len : ∀ vs H Q E, sp vs H Q E → vs.length = ps.length)
    (hbody : ∀ (f : Addr) (cdv : Value) (A : Around) (outer : List Env) (s : Shared) (H : Hp) (vs : List V) (Q : VK) (E : XK), Room k (A.deeper (envOfC x (defScope st) s.heap.objs.size f cdv)) → sp vs H Q E →
      ∃ t, PSs (cxOf C8.CX0 P w K mg base N x (defScope st) f cdv A outer s H E).nox (defBody st) t ∧ t { nx := fun _ H' => Q .non H', rt := Q } (start N vs) H) : Cal P w K mg base (k + 1) x sp := by
  obtain ⟨f, fd, F, hm⟩ := F.ex
  refine ⟨f, fd, ps, [], F.ok S len (fun cdv A outer s H vs Q E hr h => ?_), hm, F.kp, F.bindsN hb, .nil⟩
  obtain ⟨t, h1, h2⟩ := hbody f cdv A outer s H vs Q E hr h
  exact ⟨t, h1.nox, h2⟩
end
/-! ### the built-in names -/
structure Free (mg : Str → Option Value) : Prop where
  isinstance : mg "isinstance" = none
  int : mg "int" = none
  bool : mg "bool" = none
  tuple : mg "tuple" = none
  len : mg "len" = none
  all : mg "all" = none
  any : mg "any" = none
  range : mg "range" = none
  list : mg "list" = none
  min : mg "min" = none
  abs : mg "abs" = none
  sorted : mg "sorted" = none
  set : mg "set" = none
/-- constants of the module -/
structure Cons (mg : Str → Option Value) : Prop where
  standings : ∃ u, mg "MOST_STANDINGS" = some u ∧ RelV (.int 8) u
  outcomes : ∃ u, mg "MOST_OUTCOMES" = some u ∧ RelV (.int 4) u
  answer : ∃ u, mg "MOST_ANSWER" = some u ∧ RelV (.int 9) u
  puts : ∃ u, mg "MOST_PUTS" = some u ∧ RelV (.int 4) u
/-! ### data in the heap -/
/-- v is a tuple of things that stand for xs -/
def TupOf {α : Type} (R : Hp → V → α → Prop) (H : Hp) (v : V) (xs : List α) : Prop := ∃ (a : Addr) (vs : List V), v = .ref a ∧ H a = some (.tup vs) ∧ Paired (R H) vs xs
def IntV (_ : Hp) (v : V) (n : Int) : Prop := v = .int n
def PairV (H : Hp) (v : V) (p : Int × Int) : Prop := ∃ a, v = .ref a ∧ H a = some (.tup [.int p.1, .int p.2])
/-- a tuple of ints -/
def IntsV (H : Hp) (v : V) (ns : List Int) : Prop := ∃ a, v = .ref a ∧ H a = some (.tup (ns.map V.int))
def PutV (H : Hp) (v : V) (p : Int × List Int) : Prop := ∃ a u, v = .ref a ∧ H a = some (.tup [.int p.1, u]) ∧ IntsV H u p.2
abbrev RowV : Hp → V → List (Int × Int) → Prop := TupOf PairV
abbrev LooksV : Hp → V → List (List (Int × Int)) → Prop := TupOf RowV
abbrev DriftsV : Hp → V → List (List Int) → Prop := TupOf IntsV
abbrev PutsV : Hp → V → List (Int × List Int) → Prop := TupOf PutV
/-- what is kept with the heap -/
def Keeps {α : Type} (R : Hp → V → α → Prop) : Prop := ∀ H H' v x, Same H H' → R H v x → R H' v x
theorem keeps_pair : Keeps PairV := fun _ _ _ _ s ⟨a, e, h⟩ => ⟨a, e, s _ _ h⟩
theorem keeps_ints : Keeps IntsV := fun _ _ _ _ s ⟨a, e, h⟩ => ⟨a, e, s _ _ h⟩
theorem keeps_put : Keeps PutV := fun _ _ _ _ s ⟨a, u, e, h, i⟩ => ⟨a, u, e, s _ _ h, keeps_ints _ _ _ _ s i⟩
theorem keeps_tup {α : Type} {R : Hp → V → α → Prop} (k : Keeps R) : Keeps (TupOf R) := fun _ _ _ _ s ⟨a, vs, e, h, p⟩ => ⟨a, vs, e, s _ _ h, Paired.mapP p fun _ _ q => k _ _ _ _ s q⟩
theorem keeps_row : Keeps RowV := keeps_tup keeps_pair
theorem keeps_looks : Keeps LooksV := keeps_tup keeps_row
theorem keeps_drifts : Keeps DriftsV := keeps_tup keeps_ints
theorem keeps_puts : Keeps PutsV := keeps_tup keeps_put
theorem paired_get {α β : Type} {R : α → β → Prop} : ∀ {xs : List α} {ys : List β} {i : Nat} {x : α}, Paired R xs ys → xs[i]? = some x → ∃ y, ys[i]? = some y ∧ R x y
  | _, _, _, _, .nil, e => by simp at e
  | _, _, 0, _, .cons r _, e => by simp at e; subst e; exact ⟨_, rfl, r⟩
  | _, _, i + 1, x, .cons _ t, e => by
    obtain ⟨u, h1, h2⟩ := paired_get (i := i) (x := x) t (by simpa using e)
    exact ⟨u, by simpa using h1, h2⟩
theorem paired_get' {α β : Type} {R : α → β → Prop} : ∀ {xs : List α} {ys : List β} {i : Nat} {y : β}, Paired R xs ys → ys[i]? = some y → ∃ x, xs[i]? = some x ∧ R x y
  | _, _, _, _, .nil, e => by simp at e
  | _, _, 0, _, .cons r _, e => by simp at e; subst e; exact ⟨_, rfl, r⟩
  | _, _, i + 1, x, .cons _ t, e => by
    obtain ⟨u, h1, h2⟩ := paired_get' (i := i) (y := x) t (by simpa using e)
    exact ⟨u, by simpa using h1, h2⟩
/-- a new object beside what stands -/
theorem same_new {H : Hp} {p : Addr} {o : HO} (hp : H p = none) : Same H (upd H p o) := fun b u e => by
  rw [upd_ne (ne_of_none e hp)]
  exact e
/-- an object that is new is written again -/
theorem same_over {H H' : Hp} {p : Addr} {o : HO} (hp : H p = none) (s : Same H H') : Same H (upd H' p o) := fun b u e => by
  rw [upd_ne (ne_of_none e hp)]
  exact s _ _ e
theorem bl_of {Q : VK} {c b : Bool} {H : Hp} (h : c = b) (k : Q (.bl b) H) : Q (.bl c) H := by
  rw [h]
  exact k
end K9
namespace K9
open PySem PySem.Spec PyProof.Rows L2
/-- so many Trues -/
def trues (n : Nat) : List V := (List.replicate n true).map V.bl
theorem trues_succ (n : Nat) : trues n ++ [V.bl true] = trues (n + 1) := by
  unfold trues
  rw [List.replicate_succ', List.map_append]
  rfl
theorem trues_len (n : Nat) : (trues n).length = n := by simp [trues]
theorem trues_all (n : Nat) : (List.replicate n true).all id = true := by simp
/-- a comprehension without a test: the element at once -/
theorem yes_of {te : TE} {σ : L2.St} {H : Hp} {F : VK} {G : Hp → Prop} (h : te σ H F) : tYes σ H (fun b H3 => if b = true then te σ H3 F else G H3) := by
  show if true = true then te σ H F else G H
  exact iteT h
theorem line_of {n : Nat} (h : n ≤ 1000) : n < sizeLine := small1000 h
end K9

/-! the checks of arguments -/
namespace K9
open PySem PySem.Spec PyProof.Rows L2
section
variable {P : Program} {w : World} {K : PySem.W.Frag} {mg : Str → Option Value} {base : Heap}
/-! ### is_integer -/
def spIsInteger : Sp := fun vs H Q _ => ∃ n : Int, vs = [.int n] ∧ Q (.bl true) H
theorem sc6 : FnScope ["thing"] ["thing"] (defScope (top 6)) := ⟨rfl, rfl, rfl, by decide +kernel, rfl, by decide +kernel, by decide +kernel⟩
theorem cal_is_integer (F : Known K mg "is_integer" (top 6)) (T : Free mg) : Cal P w K mg base 1 "is_integer" spIsInteger := by
  refine cal_of F sc6 (fun _ _ _ _ _ _ us hl => match us, hl with | [_], _ => rfl) (fun vs H Q E h => ?_) (fun f cdv A outer s H vs Q E hr h => ?_)
  · obtain ⟨n, rfl, _⟩ := h
    rfl
  · obtain ⟨n, rfl, k⟩ := h
    refine ⟨_, pss_one (ps_ret (pe_and (pe_callB call_isi (by rfl) T.isinstance (by decide +kernel) (pa_cons (pv 0) (pa_cons (pe_bltn (v := .ty "int") (by rfl) T.int (by decide +kernel) rfl) pa_nil)))
      (pe_one (pe_not (pe_callB call_isi (by rfl) T.isinstance (by decide +kernel) (pa_cons (pv 0) (pa_cons (pe_bltn (v := .ty "bool") (by rfl) T.bool (by decide +kernel) rfl) pa_nil))))))), ?_⟩
    refine ⟨_, rfl, _, _, _, _, true, rfl, .ty "int", .base (.int n), kit_ty (by decide +kernel), true, rfl, iteT ?_⟩
    refine ⟨_, rfl, _, _, _, _, false, rfl, .ty "bool", .base (.int n), kit_ty (by decide +kernel), false, rfl, k⟩
/-! ### is_index -/
def spIsIndex : Sp := fun vs H Q _ => ∃ n m : Int, vs = [.int n, .int m] ∧ 0 ≤ n ∧ n < m ∧ Q (.bl true) H
theorem sc7 : FnScope ["thing", "many"] ["thing", "many"] (defScope (top 7)) := ⟨rfl, rfl, rfl, by decide +kernel, rfl, by decide +kernel, by decide +kernel⟩
theorem cal_is_index (F : Known K mg "is_index" (top 7)) (c : Cal P w K mg base 1 "is_integer" spIsInteger) : Cal P w K mg base 2 "is_index" spIsIndex := by
  refine cal_of F sc7 (fun _ _ _ _ _ _ us hl => match us, hl with | [_, _], _ => rfl) (fun vs H Q E h => ?_) (fun f cdv A outer s H vs Q E hr h => ?_)
  · obtain ⟨n, m, rfl, _⟩ := h
    rfl
  · obtain ⟨n, m, rfl, h0, h1, k⟩ := h
    refine ⟨_, pss_one (ps_ret (pe_and (C8.pe_c c hr (by decide) (by rfl) (pa_cons (pv 0) pa_nil)) (pe_one (pe_chain op_le op_lt pe_int (pv 0) (pv 1))))), ?_⟩
    refine ⟨_, rfl, n, rfl, true, rfl, iteT ?_⟩
    refine ⟨_, rfl, _, _, rfl, rfl, true, congrArg V.bl (decide_eq_true h0), iteT ?_⟩
    refine ⟨_, rfl, _, _, rfl, rfl, ?_⟩
    exact bl_of (Q := Q) (decide_eq_true h1) k
/-! ### is_between -/
def spIsBetween : Sp := fun vs H Q _ => ∃ n a b : Int, vs = [.int n, .int a, .int b] ∧ a ≤ n ∧ n ≤ b ∧ Q (.bl true) H
theorem sc8 : FnScope ["thing", "least", "most"] ["thing", "least", "most"] (defScope (top 8)) := ⟨rfl, rfl, rfl, by decide +kernel, rfl, by decide +kernel, by decide +kernel⟩
theorem cal_is_between (F : Known K mg "is_between" (top 8)) (c : Cal P w K mg base 1 "is_integer" spIsInteger) : Cal P w K mg base 2 "is_between" spIsBetween := by
  refine cal_of F sc8 (fun _ _ _ _ _ _ us hl => match us, hl with | [_, _, _], _ => rfl) (fun vs H Q E h => ?_) (fun f cdv A outer s H vs Q E hr h => ?_)
  · obtain ⟨n, a, b, rfl, _⟩ := h
    rfl
  · obtain ⟨n, a, b, rfl, h0, h1, k⟩ := h
    refine ⟨_, pss_one (ps_ret (pe_and (C8.pe_c c hr (by decide) (by rfl) (pa_cons (pv 0) pa_nil)) (pe_one (pe_chain op_le op_le (pv 1) (pv 0) (pv 2))))), ?_⟩
    refine ⟨_, rfl, n, rfl, true, rfl, iteT ?_⟩
    refine ⟨_, rfl, _, rfl, _, _, rfl, rfl, true, congrArg V.bl (decide_eq_true h0), iteT ?_⟩
    refine ⟨_, rfl, _, _, rfl, rfl, ?_⟩
    exact bl_of (Q := Q) (decide_eq_true h1) k
/-! ### is_tuple_of -/
def spIsTupleOf : Sp := fun vs H Q _ => ∃ (a : Addr) (xs : List V) (l m : Int), vs = [.ref a, .int l, .int m] ∧ H a = some (.tup xs) ∧ l ≤ (xs.length : Int) ∧ (xs.length : Int) ≤ m ∧ Q (.bl true) H
theorem sc9 : FnScope ["thing", "least", "most"] ["thing", "least", "most"] (defScope (top 9)) := ⟨rfl, rfl, rfl, by decide +kernel, rfl, by decide +kernel, by decide +kernel⟩
theorem cal_is_tuple_of (F : Known K mg "is_tuple_of" (top 9)) (T : Free mg) : Cal P w K mg base 1 "is_tuple_of" spIsTupleOf := by
  refine cal_of F sc9 (fun _ _ _ _ _ _ us hl => match us, hl with | [_, _, _], _ => rfl) (fun vs H Q E h => ?_) (fun f cdv A outer s H vs Q E hr h => ?_)
  · obtain ⟨a, xs, l, m, rfl, _⟩ := h
    rfl
  · obtain ⟨a, xs, l, m, rfl, ha, h0, h1, k⟩ := h
    refine ⟨_, pss_one (ps_ret (pe_and (pe_callB call_isi (by rfl) T.isinstance (by decide +kernel) (pa_cons (pv 0) (pa_cons (pe_bltn (v := .ty "tuple") (by rfl) T.tuple (by decide +kernel) rfl) pa_nil)))
      (pe_one (pe_chain op_le op_le (pv 1) (pe_callB call_len_seq (by rfl) T.len PySem.boot_len (pa_cons (pv 0) pa_nil)) (pv 2))))), ?_⟩
    refine ⟨_, rfl, _, _, _, _, true, rfl, .ty "tuple", .base (.tup ha), kit_ty (by decide +kernel), true, rfl, iteT ?_⟩
    refine ⟨_, rfl, _, rfl, a, xs, rfl, .inr (SqT.of ha), _, _, rfl, rfl, true, congrArg V.bl (decide_eq_true h0), iteT ?_⟩
    refine ⟨_, rfl, _, _, rfl, rfl, ?_⟩
    exact bl_of (Q := Q) (decide_eq_true h1) k
end
end K9

/-! rows that rise, standings, outcomes, puts -/
namespace K9
open PySem PySem.Spec PyProof.Rows L2
section
variable {P : Program} {w : World} {K : PySem.W.Frag} {mg : Str → Option Value} {base : Heap}
/-! ### are_ascending -/
def AscI (ns : List Int) : Prop := ∀ i x y, ns[i]? = some x → ns[i + 1]? = some y → x < y
def AscP (ps : List (Int × Int)) : Prop := ∀ i p q, ps[i]? = some p → ps[i + 1]? = some q → HT.lexLt [p.1, p.2] [q.1, q.2] = true
def spAsc : Sp := fun vs H Q _ => ∃ (a : Addr) (xs : List V), vs = [.ref a] ∧ H a = some (.tup xs) ∧ xs.length ≤ 1000 ∧
  ((∃ ns, Paired (IntV H) xs ns ∧ AscI ns) ∨ (∃ ps, Paired (PairV H) xs ps ∧ AscP ps)) ∧ ∀ H', Same H H' → Q (.bl true) H'
theorem sc10 : FnScope ["items", "at"] ["items"] (defScope (top 10)) := ⟨rfl, rfl, rfl, by decide +kernel, rfl, by decide +kernel, by decide +kernel⟩
theorem cal_are_ascending (F : Known K mg "are_ascending" (top 10)) (T : Free mg) : Cal P w K mg base 1 "are_ascending" spAsc := by
  refine cal_of F sc10 (fun _ _ _ _ _ _ us hl => match us, hl with | [_], _ => rfl) (fun vs H Q E h => ?_) (fun f cdv A outer s H vs Q E hr h => ?_)
  · obtain ⟨a, xs, rfl, _⟩ := h
    rfl
  · obtain ⟨a, xs, rfl, ha, hl, hor, k⟩ := h
    have nlt : (xs.length : Int) - 1 < 2 ^ 62 := by omega
    have fin : ∀ (n : Nat) (D : Addr) (H' : Hp), Same H H' ∧ H' D = some (.lst (trues n)) → rAll K [V.ref D] H' Q := fun n D H' ⟨s1, hD⟩ =>
      ⟨D, List.replicate n true, rfl, SqL.of hD, bl_of (Q := Q) (trues_all n) (k H' s1)⟩
    have step : ∀ (i : Nat) (H' : Hp) (D : Addr), H D = none → Same H H' → H' D = some (.lst (trues i)) → i < (((xs.length : Nat) : Int) - 1).toNat → ∃ acc, H' D = some (.lst acc) ∧ acc.length < sizeLine ∧ (Same H (upd H' D (.lst (acc ++ [V.bl true]))) ∧ upd H' D (.lst (acc ++ [V.bl true])) D = some (.lst (trues (i + 1)))) := fun i H' D nD s1 hD hi =>
      ⟨_, hD, by rw [trues_len]; exact line_of (by omega), same_over nD s1, by rw [trues_succ]; exact upd_same⟩
    rcases hor with ⟨ns, pr, as⟩ | ⟨ps, pr, as⟩
    · refine ⟨_, pss_one (ps_ret (pe_callB (cr_all rfl) (by rfl) T.all (by decide +kernel) (pa_cons (pe_lc (own := [("at", 1)]) (g := gName 1) (tt := tYes) rfl sc10.nd
        (pi_range2 (by rfl) T.range (pa_cons pe_int (pa_cons (pe_callB call_len_seq (by rfl) T.len PySem.boot_len (pa_cons (pv 0) pa_nil)) pa_nil))) (blkOk_by (own := [("at", 1)]) (N := ["items", "at"]) (sc := defScope (top 10)) (by decide +kernel))
        (fun _ _ _ _ _ => pg_name (i := 1) sc10.nd rfl (Or.inl rfl)) (fun _ _ _ _ _ => pts_nil)
        (fun _ _ _ _ _ => pe_cmpR op_lt (pe_ix (r := rIxT K) ix_tup (pv 0) (pe_op op_sub (pv 1) pe_int) (fun _ _ => rfl)) (pe_ix (r := rIxT K) ix_tup (pv 0) (pv 1) (fun _ _ => rfl)) (nomark _))) pa_nil))), ?_⟩
      refine ⟨_, rfl, a, xs, rfl, .inr (SqT.of ha), 1, _, rfl, ⟨by decide, by decide, by omega, by omega⟩, fun D nD => ?_⟩
      refine lc_range (lo := 1) (n := (((xs.length : Nat) : Int) - 1).toNat) (fun i H' => Same H H' ∧ H' D = some (.lst (trues i))) ⟨same_new nD, upd_same⟩ (fun i H' hi ⟨s1, hD⟩ => ?_) (fun H' p => fin _ D H' p)
      obtain ⟨x, hx⟩ : ∃ x, xs[i]? = some x := ⟨xs[i]'(by omega), List.getElem?_eq_getElem _⟩
      obtain ⟨y, hy⟩ : ∃ y, xs[i + 1]? = some y := ⟨xs[i + 1]'(by omega), List.getElem?_eq_getElem _⟩
      obtain ⟨m, hm, rx⟩ := paired_get pr hx
      obtain ⟨n, hn, ry⟩ := paired_get pr hy
      refine ⟨rfl, yes_of ?_⟩
      refine ⟨_, rfl, _, rfl, _, _, rfl, rfl, a, xs, _, x, rfl, rfl, SqT.of (s1 _ _ ha), at_of (j := i) (by omega) hx, ?_⟩
      refine ⟨_, rfl, _, rfl, a, xs, _, y, rfl, rfl, SqT.of (s1 _ _ ha), at_of (j := i + 1) (by omega) hy, m, n, rx, ry, ?_⟩
      have e : decide (m < n) = true := decide_eq_true (as i m n hm hn)
      dsimp only
      rw [e]
      exact step i H' D nD s1 hD hi
    · refine ⟨_, pss_one (ps_ret (pe_callB (cr_all rfl) (by rfl) T.all (by decide +kernel) (pa_cons (pe_lc (own := [("at", 1)]) (g := gName 1) (tt := tYes) rfl sc10.nd
        (pi_range2 (by rfl) T.range (pa_cons pe_int (pa_cons (pe_callB call_len_seq (by rfl) T.len PySem.boot_len (pa_cons (pv 0) pa_nil)) pa_nil))) (blkOk_by (own := [("at", 1)]) (N := ["items", "at"]) (sc := defScope (top 10)) (by decide +kernel))
        (fun _ _ _ _ _ => pg_name (i := 1) sc10.nd rfl (Or.inl rfl)) (fun _ _ _ _ _ => pts_nil)
        (fun _ _ _ _ _ => pe_cmpR (r := rLtT K) (op_ltT hr.units0) (pe_ix (r := rIxT K) ix_tup (pv 0) (pe_op op_sub (pv 1) pe_int) (fun _ _ => rfl)) (pe_ix (r := rIxT K) ix_tup (pv 0) (pv 1) (fun _ _ => rfl)) (nomark _))) pa_nil))), ?_⟩
      refine ⟨_, rfl, a, xs, rfl, .inr (SqT.of ha), 1, _, rfl, ⟨by decide, by decide, by omega, by omega⟩, fun D nD => ?_⟩
      refine lc_range (lo := 1) (n := (((xs.length : Nat) : Int) - 1).toNat) (fun i H' => Same H H' ∧ H' D = some (.lst (trues i))) ⟨same_new nD, upd_same⟩ (fun i H' hi ⟨s1, hD⟩ => ?_) (fun H' p => fin _ D H' p)
      obtain ⟨x, hx⟩ : ∃ x, xs[i]? = some x := ⟨xs[i]'(by omega), List.getElem?_eq_getElem _⟩
      obtain ⟨y, hy⟩ : ∃ y, xs[i + 1]? = some y := ⟨xs[i + 1]'(by omega), List.getElem?_eq_getElem _⟩
      obtain ⟨m, hm, b, rfl, hb⟩ := paired_get pr hx
      obtain ⟨n, hn, c, rfl, hc⟩ := paired_get pr hy
      refine ⟨rfl, yes_of ?_⟩
      refine ⟨_, rfl, _, rfl, _, _, rfl, rfl, a, xs, _, _, rfl, rfl, SqT.of (s1 _ _ ha), at_of (j := i) (by omega) hx, ?_⟩
      refine ⟨_, rfl, _, rfl, a, xs, _, _, rfl, rfl, SqT.of (s1 _ _ ha), at_of (j := i + 1) (by omega) hy, b, c, [m.1, m.2], [n.1, n.2], rfl, rfl, SqT.of (s1 _ _ hb), SqT.of (s1 _ _ hc), ?_⟩
      have e : HT.lexLt [m.1, m.2] [n.1, n.2] = true := as i m n hm hn
      dsimp only
      rw [e]
      exact step i H' D nD s1 hD hi
end
end K9

/-! all([f(x, many) for x in t]); standings, outcomes, puts -/
namespace K9
open PySem PySem.Spec PyProof.Rows L2
/-- all([f(x, many) for x in t]), each of them True -/
theorem all_read {K : PySem.W.Frag} {i j m : Nat} {vs : List Nat} {sp : Sp} {σ : L2.St} {H : Hp} {Q : VK} {a : Addr} {xs : List V} {many : Int} (hi : σ[i]? = some (some (.ref a))) (ha : H a = some (.tup xs)) (hl : xs.length ≤ 1000)
    (hj : ∀ x : V, ((wipe σ vs).set j (some x))[j]? = some (some x)) (hm : ∀ x : V, ((wipe σ vs).set j (some x))[m]? = some (some (.int many))) (hw : ∀ x : V, wipe ((wipe σ vs).set j (some x)) vs = wipe σ vs)
    (each : ∀ (x : V), x ∈ xs → ∀ (H' : Hp) (Q' : VK), Same H H' → (∀ H'', Same H' H'' → Q' (.bl true) H'') → sp [x, .int many] H' Q' E0) (k : ∀ H', Same H H' → Q (.bl true) H') :
    tCB (rAll K) (tCons (tLc (iTup K (tVar i)) (gName j) tYes (tCall sp [] E0 (tCons (tVar j) (tCons (tVar m) tNil))) vs) tNil) σ H Q := by
  refine ⟨_, hi, a, rfl, ⟨_, SqT.of ha⟩, fun D nD => ?_⟩
  refine lc_tup (K := K) (a := a) (xs := xs) (fun i H' => Same H H' ∧ H' D = some (.lst (trues i))) ⟨same_new nD, upd_same⟩ (fun i H' _ ⟨s1, _⟩ => SqT.of (s1 _ _ ha)) (fun i x H' hx ⟨s1, hD⟩ => ?_) (fun H' ⟨s1, hD⟩ => ?_)
  · refine ⟨hw x, yes_of ?_⟩
    refine ⟨_, hj x, _, hm x, each x (List.mem_of_getElem? hx) H' _ s1 fun H'' s2 => ?_⟩
    have hi2 : i < xs.length := (List.getElem?_eq_some_iff.mp hx).1
    exact ⟨_, s2 _ _ hD, by rw [trues_len]; exact line_of (by omega), same_over nD (s1.trans s2), by rw [trues_succ]; exact upd_same⟩
  · exact ⟨D, List.replicate xs.length true, rfl, SqL.of hD, bl_of (Q := Q) (trues_all _) (k H' s1)⟩
theorem paired_ints (H : Hp) : ∀ ns : List Int, Paired (IntV H) (ns.map V.int) ns
  | [] => .nil
  | _ :: r => .cons rfl (paired_ints H r)
theorem paired_len {α β : Type} {R : α → β → Prop} : ∀ {xs : List α} {ys : List β}, Paired R xs ys → xs.length = ys.length := Paired.length
theorem paired_mem {α β : Type} {R : α → β → Prop} {xs : List α} {ys : List β} {x : α} (p : Paired R xs ys) (h : x ∈ xs) : ∃ y, y ∈ ys ∧ R x y := by
  obtain ⟨i, hi, e⟩ := List.mem_iff_getElem.mp h
  obtain ⟨y, hy, r⟩ := paired_get p (show xs[i]? = some x by rw [List.getElem?_eq_getElem hi, e])
  exact ⟨y, List.mem_of_getElem? hy, r⟩
section
variable {P : Program} {w : World} {K : PySem.W.Frag} {mg : Str → Option Value} {base : Heap}
/-! ### are_standings -/
def Sts (m : Int) (ns : List Int) : Prop := ns.length ≤ 1000 ∧ (∀ n ∈ ns, 0 ≤ n ∧ n < m) ∧ AscI ns
def spStandings : Sp := fun vs H Q _ => ∃ (v : V) (ns : List Int) (m : Int), vs = [v, .int m] ∧ IntsV H v ns ∧ Sts m ns ∧ ∀ H', Same H H' → Q (.bl true) H'
theorem sc16 : FnScope ["thing", "many", "standing"] ["thing", "many"] (defScope (top 16)) := ⟨rfl, rfl, rfl, by decide +kernel, rfl, by decide +kernel, by decide +kernel⟩
theorem cal_are_standings (F : Known K mg "are_standings" (top 16)) (T : Free mg) (c : Cal P w K mg base 2 "is_index" spIsIndex) (ca : Cal P w K mg base 1 "are_ascending" spAsc) : Cal P w K mg base 3 "are_standings" spStandings := by
  refine cal_of F sc16 (fun _ _ _ _ _ _ us hl => match us, hl with | [_, _], _ => rfl) (fun vs H Q E h => ?_) (fun f cdv A outer s H vs Q E hr h => ?_)
  · obtain ⟨v, ns, m, rfl, _⟩ := h
    rfl
  · obtain ⟨v, ns, m, rfl, ⟨a, rfl, ha⟩, ⟨hl, hr1, has⟩, k⟩ := h
    refine ⟨_, pss_cons (ps_if (PW.pt (pw_or (pt_not (pt_val (pe_callB call_isi (by rfl) T.isinstance (by decide +kernel) (pa_cons (pv 0) (pa_cons (pe_bltn (v := .ty "tuple") (by rfl) T.tuple (by decide +kernel) rfl) pa_nil)))))
        (pw_or1 (pt_not (pt_val (pe_callB (cr_all rfl) (by rfl) T.all (by decide +kernel) (pa_cons (pe_lc (own := [("standing", 2)]) (g := gName 2) (tt := tYes) rfl sc16.nd
          (pi_tup (pv 0)) (blkOk_by (own := [("standing", 2)]) (N := ["thing", "many", "standing"]) (sc := defScope (top 16)) (by decide +kernel))
          (fun _ _ _ _ _ => pg_name (i := 2) sc16.nd rfl (Or.inl rfl)) (fun _ _ _ _ _ => pts_nil)
          (fun _ _ _ _ _ => C8.pe_c c hr (by decide) (by rfl) (pa_cons (pv 2) (pa_cons (pv 1) pa_nil)))) pa_nil))))))) (pss_one (ps_ret pe_bl)) pss_nil)
      (pss_one (ps_ret (C8.pe_c ca hr (by decide) (by rfl) (pa_cons (pv 0) pa_nil)))), ?_⟩
    refine ⟨_, rfl, _, _, _, _, true, rfl, .ty "tuple", .base (.tup ha), kit_ty (by decide +kernel), true, rfl, iteF ?_⟩
    refine all_read (K := K) (a := a) (many := m) rfl ha (by rw [List.length_map]; exact hl) (fun _ => rfl) (fun _ => rfl) (fun _ => rfl) (fun x hx H' Q' s1 k' => ?_) (fun H1 s1 => ?_)
    · obtain ⟨n, hn, e⟩ := List.mem_map.mp hx
      exact ⟨n, m, by rw [← e], (hr1 n hn).1, (hr1 n hn).2, k' H' (Same.refl H')⟩
    · refine ⟨true, rfl, iteF ?_⟩
      refine ⟨_, rfl, a, ns.map V.int, rfl, s1 _ _ ha, by rw [List.length_map]; exact hl, .inl ⟨ns, paired_ints _ ns, has⟩, fun H2 s2 => k H2 (s1.trans s2)⟩
end
end K9

/-! outcomes, puts, kinds -/
namespace K9
open PySem PySem.Spec PyProof.Rows L2
section
variable {P : Program} {w : World} {K : PySem.W.Frag} {mg : Str → Option Value} {base : Heap}
/-! ### is_outcome -/
def OkOut (m : Int) (p : Int × Int) : Prop := 0 ≤ p.1 ∧ p.1 ≤ 9 ∧ 0 ≤ p.2 ∧ p.2 < m
def spIsOutcome : Sp := fun vs H Q _ => ∃ (v : V) (p : Int × Int) (m : Int), vs = [v, .int m] ∧ PairV H v p ∧ OkOut m p ∧ Q (.bl true) H
theorem sc17 : FnScope ["thing", "many"] ["thing", "many"] (defScope (top 17)) := ⟨rfl, rfl, rfl, by decide +kernel, rfl, by decide +kernel, by decide +kernel⟩
theorem cal_is_outcome (F : Known K mg "is_outcome" (top 17)) (C : Cons mg) (ct : Cal P w K mg base 1 "is_tuple_of" spIsTupleOf) (cb : Cal P w K mg base 2 "is_between" spIsBetween) (ci : Cal P w K mg base 2 "is_index" spIsIndex) : Cal P w K mg base 3 "is_outcome" spIsOutcome := by
  refine cal_of F sc17 (fun _ _ _ _ _ _ us hl => match us, hl with | [_, _], _ => rfl) (fun vs H Q E h => ?_) (fun f cdv A outer s H vs Q E hr h => ?_)
  · obtain ⟨v, p, m, rfl, _⟩ := h
    rfl
  · obtain ⟨v, p, m, rfl, ⟨a, rfl, ha⟩, ⟨h1, h2, h3, h4⟩, k⟩ := h
    refine ⟨_, pss_one (ps_ret (pe_and (C8.pe_c ct hr (by decide) (by rfl) (pa_cons (pv 0) (pa_cons pe_int (pa_cons pe_int pa_nil))))
      (pe_and (C8.pe_c cb hr (by decide) (by rfl) (pa_cons (pe_ix (r := rIxT K) ix_tup (pv 0) pe_int (fun _ _ => rfl)) (pa_cons pe_int (pa_cons (C8.pe_gc (by rfl) C.answer) pa_nil))))
      (pe_one (C8.pe_c ci hr (by decide) (by rfl) (pa_cons (pe_ix (r := rIxT K) ix_tup (pv 0) pe_int (fun _ _ => rfl)) (pa_cons (pv 1) pa_nil))))))), ?_⟩
    refine ⟨_, rfl, a, _, 2, 2, rfl, ha, (by show (2 : Int) ≤ 2; decide), (by show (2 : Int) ≤ 2; decide), true, rfl, iteT ?_⟩
    refine ⟨_, rfl, a, _, 0, _, rfl, rfl, SqT.of ha, at_of (j := 0) rfl rfl, p.1, 0, 9, rfl, h1, h2, true, rfl, iteT ?_⟩
    exact ⟨_, rfl, a, _, 1, _, rfl, rfl, SqT.of ha, at_of (j := 1) rfl rfl, _, rfl, p.2, m, rfl, h3, h4, k⟩
/-! ### are_outcomes -/
def OkRow (m : Int) (r : List (Int × Int)) : Prop := 1 ≤ r.length ∧ r.length ≤ 4 ∧ (∀ p ∈ r, OkOut m p) ∧ AscP r
def spOutcomes : Sp := fun vs H Q _ => ∃ (v : V) (r : List (Int × Int)) (m : Int), vs = [v, .int m] ∧ RowV H v r ∧ OkRow m r ∧ ∀ H', Same H H' → Q (.bl true) H'
theorem sc18 : FnScope ["thing", "many", "pair"] ["thing", "many"] (defScope (top 18)) := ⟨rfl, rfl, rfl, by decide +kernel, rfl, by decide +kernel, by decide +kernel⟩
theorem cal_are_outcomes (F : Known K mg "are_outcomes" (top 18)) (T : Free mg) (C : Cons mg) (ct : Cal P w K mg base 1 "is_tuple_of" spIsTupleOf) (co : Cal P w K mg base 3 "is_outcome" spIsOutcome) (ca : Cal P w K mg base 1 "are_ascending" spAsc) :
    Cal P w K mg base 4 "are_outcomes" spOutcomes := by
  refine cal_of F sc18 (fun _ _ _ _ _ _ us hl => match us, hl with | [_, _], _ => rfl) (fun vs H Q E h => ?_) (fun f cdv A outer s H vs Q E hr h => ?_)
  · obtain ⟨v, r, m, rfl, _⟩ := h
    rfl
  · obtain ⟨v, r, m, rfl, ⟨a, xs, rfl, ha, pr⟩, ⟨hl1, hl2, hr1, has⟩, k⟩ := h
    have hl : xs.length = r.length := paired_len pr
    refine ⟨_, pss_cons (ps_if (PW.pt (pw_or (pt_not (pt_val (C8.pe_c ct hr (by decide) (by rfl) (pa_cons (pv 0) (pa_cons pe_int (pa_cons (C8.pe_gc (by rfl) C.outcomes) pa_nil))))))
        (pw_or1 (pt_not (pt_val (pe_callB (cr_all rfl) (by rfl) T.all (by decide +kernel) (pa_cons (pe_lc (own := [("pair", 2)]) (g := gName 2) (tt := tYes) rfl sc18.nd
          (pi_tup (pv 0)) (blkOk_by (own := [("pair", 2)]) (N := ["thing", "many", "pair"]) (sc := defScope (top 18)) (by decide +kernel))
          (fun _ _ _ _ _ => pg_name (i := 2) sc18.nd rfl (Or.inl rfl)) (fun _ _ _ _ _ => pts_nil)
          (fun _ _ _ _ _ => C8.pe_c co hr (by decide) (by rfl) (pa_cons (pv 2) (pa_cons (pv 1) pa_nil)))) pa_nil))))))) (pss_one (ps_ret pe_bl)) pss_nil)
      (pss_one (ps_ret (C8.pe_c ca hr (by decide) (by rfl) (pa_cons (pv 0) pa_nil)))), ?_⟩
    refine ⟨_, rfl, a, xs, 1, 4, rfl, ha, by omega, by omega, true, rfl, iteF ?_⟩
    refine all_read (K := K) (a := a) (many := m) rfl ha (by omega) (fun _ => rfl) (fun _ => rfl) (fun _ => rfl) (fun x hx H' Q' s1 k' => ?_) (fun H1 s1 => ?_)
    · obtain ⟨p, hp, e⟩ := paired_mem pr hx
      exact ⟨x, p, m, rfl, keeps_pair _ _ _ _ s1 e, hr1 p hp, k' H' (Same.refl H')⟩
    · refine ⟨true, rfl, iteF ?_⟩
      exact ⟨_, rfl, a, xs, rfl, s1 _ _ ha, by omega, .inr ⟨r, Paired.mapP pr fun _ _ q => keeps_pair _ _ _ _ s1 q, has⟩, fun H2 s2 => k H2 (s1.trans s2)⟩
/-! ### is_put -/
def OkPut (m : Int) (p : Int × List Int) : Prop := 0 ≤ p.1 ∧ p.1 < m ∧ Sts m p.2
def spIsPut : Sp := fun vs H Q _ => ∃ (v : V) (p : Int × List Int) (m : Int), vs = [v, .int m] ∧ PutV H v p ∧ OkPut m p ∧ ∀ H', Same H H' → Q (.bl true) H'
theorem sc19 : FnScope ["thing", "many"] ["thing", "many"] (defScope (top 19)) := ⟨rfl, rfl, rfl, by decide +kernel, rfl, by decide +kernel, by decide +kernel⟩
theorem cal_is_put (F : Known K mg "is_put" (top 19)) (ct : Cal P w K mg base 1 "is_tuple_of" spIsTupleOf) (ci : Cal P w K mg base 2 "is_index" spIsIndex) (cs : Cal P w K mg base 3 "are_standings" spStandings) : Cal P w K mg base 4 "is_put" spIsPut := by
  refine cal_of F sc19 (fun _ _ _ _ _ _ us hl => match us, hl with | [_, _], _ => rfl) (fun vs H Q E h => ?_) (fun f cdv A outer s H vs Q E hr h => ?_)
  · obtain ⟨v, p, m, rfl, _⟩ := h
    rfl
  · obtain ⟨v, p, m, rfl, ⟨a, u, rfl, ha, hu⟩, ⟨h1, h2, h3⟩, k⟩ := h
    refine ⟨_, pss_one (ps_ret (pe_and (C8.pe_c ct hr (by decide) (by rfl) (pa_cons (pv 0) (pa_cons pe_int (pa_cons pe_int pa_nil))))
      (pe_and (C8.pe_c ci hr (by decide) (by rfl) (pa_cons (pe_ix (r := rIxT K) ix_tup (pv 0) pe_int (fun _ _ => rfl)) (pa_cons (pv 1) pa_nil)))
      (pe_one (C8.pe_c cs hr (by decide) (by rfl) (pa_cons (pe_ix (r := rIxT K) ix_tup (pv 0) pe_int (fun _ _ => rfl)) (pa_cons (pv 1) pa_nil))))))), ?_⟩
    refine ⟨_, rfl, a, _, 2, 2, rfl, ha, (by show (2 : Int) ≤ 2; decide), (by show (2 : Int) ≤ 2; decide), true, rfl, iteT ?_⟩
    refine ⟨_, rfl, a, _, 0, _, rfl, rfl, SqT.of ha, at_of (j := 0) rfl rfl, _, rfl, p.1, m, rfl, h1, h2, true, rfl, iteT ?_⟩
    exact ⟨_, rfl, a, _, 1, _, rfl, rfl, SqT.of ha, at_of (j := 1) rfl rfl, _, rfl, u, p.2, m, rfl, hu, h3, k⟩
/-! ### check_kind -/
structure OkKind (LL : List (List (Int × Int))) (DD : List (List Int)) (PP : List (Int × List Int)) : Prop where
  l1 : 1 ≤ LL.length
  l8 : LL.length ≤ 8
  rows : ∀ r ∈ LL, OkRow (LL.length : Int) r
  dl : DD.length = LL.length
  drifts : ∀ d ∈ DD, Sts (LL.length : Int) d
  pl : PP.length ≤ 4
  puts : ∀ p ∈ PP, OkPut (LL.length : Int) p
def spCheckKind : Sp := fun vs H Q _ => ∃ (vl vd vp : V) (LL : List (List (Int × Int))) (DD : List (List Int)) (PP : List (Int × List Int)), vs = [vl, vd, vp] ∧ LooksV H vl LL ∧ DriftsV H vd DD ∧ PutsV H vp PP ∧ OkKind LL DD PP ∧ ∀ H', Same H H' → Q .non H'
theorem sc20 : FnScope ["looks", "drifts", "puts", "many", "outcomes", "row", "pair"] ["looks", "drifts", "puts"] (defScope (top 20)) := ⟨rfl, rfl, rfl, by decide +kernel, rfl, by decide +kernel, by decide +kernel⟩
theorem cal_check_kind (F : Known K mg "check_kind" (top 20)) (T : Free mg) (C : Cons mg) (ct : Cal P w K mg base 1 "is_tuple_of" spIsTupleOf) (co : Cal P w K mg base 4 "are_outcomes" spOutcomes) (cs : Cal P w K mg base 3 "are_standings" spStandings) (cp : Cal P w K mg base 4 "is_put" spIsPut) :
    Cal P w K mg base 5 "check_kind" spCheckKind := by
  refine cal_of F sc20 (fun _ _ _ _ _ _ us hl => match us, hl with | [_, _, _], _ => rfl) (fun vs H Q E h => ?_) (fun f cdv A outer s H vs Q E hr h => ?_)
  · obtain ⟨vl, vd, vp, LL, DD, PP, rfl, _⟩ := h
    rfl
  · obtain ⟨vl, vd, vp, LL, DD, PP, rfl, ⟨al, xl, rfl, hal, pl⟩, ⟨ad, xd, rfl, had, pd⟩, ⟨ap, xp, rfl, hap, pp⟩, O, k⟩ := h
    have ll := paired_len pl
    have ld := paired_len pd
    have lp := paired_len pp
    obtain ⟨o1, o2, o3, o4, o5, o6, o7⟩ := O
    refine ⟨_, pss_cons (ps_if (pt_not (pt_val (C8.pe_c ct hr (by decide) (by rfl) (pa_cons (pv 0) (pa_cons pe_int (pa_cons (C8.pe_gc (by rfl) C.standings) pa_nil)))))) (pss_one ps_never) pss_nil)
      (pss_cons (ps_set (i := 3) sc20.nd rfl (Or.inr rfl) (pe_callB call_len_seq (by rfl) T.len PySem.boot_len (pa_cons (pv 0) pa_nil)))
      (pss_cons (ps_if (pt_not (pt_val (pe_callB (cr_all rfl) (by rfl) T.all (by decide +kernel) (pa_cons (pe_lc (own := [("outcomes", 4)]) (g := gName 4) (tt := tYes) rfl sc20.nd
          (pi_tup (pv 0)) (blkOk_by (own := [("outcomes", 4)]) (N := ["looks", "drifts", "puts", "many", "outcomes", "row", "pair"]) (sc := defScope (top 20)) (by decide +kernel))
          (fun _ _ _ _ _ => pg_name (i := 4) sc20.nd rfl (Or.inl rfl)) (fun _ _ _ _ _ => pts_nil)
          (fun _ _ _ _ _ => C8.pe_c co hr (by decide) (by rfl) (pa_cons (pv 4) (pa_cons (pv 3) pa_nil)))) pa_nil)))) (pss_one ps_never) pss_nil)
      (pss_cons (ps_if (PW.pt (pw_or (pt_not (pt_val (C8.pe_c ct hr (by decide) (by rfl) (pa_cons (pv 1) (pa_cons (pv 3) (pa_cons (pv 3) pa_nil))))))
        (pw_or1 (pt_not (pt_val (pe_callB (cr_all rfl) (by rfl) T.all (by decide +kernel) (pa_cons (pe_lc (own := [("row", 5)]) (g := gName 5) (tt := tYes) rfl sc20.nd
          (pi_tup (pv 1)) (blkOk_by (own := [("row", 5)]) (N := ["looks", "drifts", "puts", "many", "outcomes", "row", "pair"]) (sc := defScope (top 20)) (by decide +kernel))
          (fun _ _ _ _ _ => pg_name (i := 5) sc20.nd rfl (Or.inl rfl)) (fun _ _ _ _ _ => pts_nil)
          (fun _ _ _ _ _ => C8.pe_c cs hr (by decide) (by rfl) (pa_cons (pv 5) (pa_cons (pv 3) pa_nil)))) pa_nil))))))) (pss_one ps_never) pss_nil)
      (pss_one (ps_if (PW.pt (pw_or (pt_not (pt_val (C8.pe_c ct hr (by decide) (by rfl) (pa_cons (pv 2) (pa_cons pe_int (pa_cons (C8.pe_gc (by rfl) C.puts) pa_nil))))))
        (pw_or1 (pt_not (pt_val (pe_callB (cr_all rfl) (by rfl) T.all (by decide +kernel) (pa_cons (pe_lc (own := [("pair", 6)]) (g := gName 6) (tt := tYes) rfl sc20.nd
          (pi_tup (pv 2)) (blkOk_by (own := [("pair", 6)]) (N := ["looks", "drifts", "puts", "many", "outcomes", "row", "pair"]) (sc := defScope (top 20)) (by decide +kernel))
          (fun _ _ _ _ _ => pg_name (i := 6) sc20.nd rfl (Or.inl rfl)) (fun _ _ _ _ _ => pts_nil)
          (fun _ _ _ _ _ => C8.pe_c cp hr (by decide) (by rfl) (pa_cons (pv 6) (pa_cons (pv 3) pa_nil)))) pa_nil))))))) (pss_one ps_never) pss_nil))))), ?_⟩
    refine ⟨_, rfl, al, xl, 1, 8, rfl, hal, by omega, by omega, true, rfl, iteF ?_⟩
    refine ⟨_, rfl, al, xl, rfl, .inr (SqT.of hal), ?_⟩
    refine all_read (K := K) (a := al) (many := (xl.length : Int)) rfl hal (by omega) (fun _ => rfl) (fun _ => rfl) (fun _ => rfl) (fun x hx H' Q' s1 k' => ?_) (fun H1 s1 => ?_)
    · obtain ⟨r, hr, e⟩ := paired_mem pl hx
      exact ⟨x, r, _, rfl, keeps_row _ _ _ _ s1 e, by rw [ll]; exact o3 r hr, k'⟩
    refine ⟨true, rfl, iteF ?_⟩
    refine ⟨_, rfl, _, rfl, _, rfl, ad, xd, _, _, rfl, s1 _ _ had, by omega, by omega, true, rfl, iteF ?_⟩
    refine all_read (K := K) (a := ad) (many := (xl.length : Int)) rfl (s1 _ _ had) (by omega) (fun _ => rfl) (fun _ => rfl) (fun _ => rfl) (fun x hx H' Q' s2 k' => ?_) (fun H2 s2 => ?_)
    · obtain ⟨r, hr, e⟩ := paired_mem pd hx
      exact ⟨x, r, _, rfl, keeps_ints _ _ _ _ (s1.trans s2) e, by rw [ll]; exact o5 r hr, k'⟩
    refine ⟨true, rfl, iteF ?_⟩
    refine ⟨_, rfl, ap, xp, 0, 4, rfl, (s1.trans s2) _ _ hap, by omega, by omega, true, rfl, iteF ?_⟩
    refine all_read (K := K) (a := ap) (many := (xl.length : Int)) rfl ((s1.trans s2) _ _ hap) (by omega) (fun _ => rfl) (fun _ => rfl) (fun _ => rfl) (fun x hx H' Q' s3 k' => ?_) (fun H3 s3 => ?_)
    · obtain ⟨r, hr, e⟩ := paired_mem pp hx
      exact ⟨x, r, _, rfl, keeps_put _ _ _ _ ((s1.trans s2).trans s3) e, by rw [ll]; exact o7 r hr, k'⟩
    exact ⟨true, rfl, iteF (k H3 ((s1.trans s2).trans s3))⟩
end
end K9

/-! a kind is made -/
namespace K9
open PySem PySem.Spec PyProof.Rows L2
theorem look_here {f : Str} {v : V} {fs : List (Str × V)} : (putF f v fs).lookup f = some v := by
  rw [lookup_putF, if_pos rfl]
theorem look_skip {f g : Str} {v : V} {fs : List (Str × V)} {r : Option V} (h : ¬ g = f) (q : fs.lookup g = r) : (putF f v fs).lookup g = r := by
  rw [lookup_putF, if_neg h]
  exact q
theorem len_put {f : Str} {v : V} {fs : List (Str × V)} {n : Nat} (h : fs.length ≤ n) : (putF f v fs).length ≤ n + 1 := by
  have := length_putF f v fs
  omega
/-- a kind stands at p -/
def KindAt (C : Addr) (H : Hp) (p : Addr) (LL : List (List (Int × Int))) (DD : List (List Int)) : Prop :=
  ∃ (dx : Addr) (fs : List (Str × V)) (vl vd : V), H p = some (.ins C dx fs) ∧ fs.lookup ("kept_looks" : Str) = some vl ∧ fs.lookup ("kept_drifts" : Str) = some vd ∧ fs.lookup ("size" : Str) = some (.int (LL.length : Int)) ∧ LooksV H vl LL ∧ DriftsV H vd DD
theorem KindAt.keep {C : Addr} {H H' : Hp} {p : Addr} {LL : List (List (Int × Int))} {DD : List (List Int)} (s : Same H H') (h : KindAt C H p LL DD) : KindAt C H' p LL DD := by
  obtain ⟨dx, fs, vl, vd, h1, h2, h3, h4, h5, h6⟩ := h
  exact ⟨dx, fs, vl, vd, s _ _ h1, h2, h3, h4, keeps_looks _ _ _ _ s h5, keeps_drifts _ _ _ _ s h6⟩
/-- the class as the top has made it -/
structure KindC (K : PySem.W.Frag) (mg : Str → Option Value) (C : Addr) : Prop where
  cl : L2.Cls K C
  mgc : mg "Kind" = some (.ref C)
  nkl : NoAttr K C "kept_looks"
  nkd : NoAttr K C "kept_drifts"
  nkp : NoAttr K C "kept_puts"
  nl : NoAttr K C "looks"
  nd : NoAttr K C "drifts"
  np : NoAttr K C "puts"
  ns : NoAttr K C "size"
  nf : NoAttr K C "kept_facts"
section
variable {P : Program} {w : World} {K : PySem.W.Frag} {mg : Str → Option Value} {base : Heap}
abbrev sInit : Stmt := inClass (top 21) 0
def spInit (C : Addr) : Sp := fun vs H Q _ => ∃ (H0 : Hp) (p dx : Addr) (vl vd vp : V) (LL : List (List (Int × Int))) (DD : List (List Int)) (PP : List (Int × List Int)), vs = [.ref p, vl, vd, vp] ∧ Same H0 H ∧ H0 p = none ∧ H p = some (.ins C dx []) ∧
  LooksV H0 vl LL ∧ DriftsV H0 vd DD ∧ PutsV H0 vp PP ∧ OkKind LL DD PP ∧ ∀ H', Same H0 H' → KindAt C H' p LL DD → Q .non H'
theorem scI : FnScope ["self", "looks", "drifts", "puts"] ["self", "looks", "drifts", "puts"] (defScope sInit) := ⟨rfl, rfl, rfl, by decide +kernel, rfl, by decide +kernel, by decide +kernel⟩
theorem mak_kind {C f : Addr} {fd : FuncData} (F : FunD K "__init__" "Kind.__init__" (defArgs sInit) (defBody sInit) (defScope sInit) [] [] f fd) (M : Mk K C f) (T : Free mg) (KC : KindC K mg C) (cc : Cal P w K mg base 5 "check_kind" spCheckKind) :
    C8.Mak P w K mg base 6 "Kind" C (spInit C) [] := by
  refine ⟨f, fd, ["self", "looks", "drifts", "puts"], [], M, F.ok scI (fun vs H Q E h => ?_) (fun cdv A outer s H vs Q E hr h => ?_), KC.mgc, F.bindsN (fun _ _ _ _ _ _ us hl => match us, hl with | [_, _, _, _], _ => rfl), .nil⟩
  · obtain ⟨H0, p, dx, vl, vd, vp, LL, DD, PP, rfl, _⟩ := h
    rfl
  · obtain ⟨H0, p, dx, vl, vd, vp, LL, DD, PP, rfl, s0, p0, hp, hl, hd, hpp, O, k⟩ := h
    refine ⟨_, PSs.nox (pss_cons (ps_expr (C8.pe_c cc hr (by decide) (by rfl) (pa_cons (pv 1) (pa_cons (pv 2) (pa_cons (pv 3) pa_nil)))))
      (pss_cons (ps_fld (pv 0) (pv 1) rfl) (pss_cons (ps_fld (pv 0) (pv 2) rfl) (pss_cons (ps_fld (pv 0) (pv 3) rfl) (pss_cons (ps_fld (pv 0) (pv 1) rfl) (pss_cons (ps_fld (pv 0) (pv 2) rfl) (pss_cons (ps_fld (pv 0) (pv 3) rfl)
      (pss_cons (ps_fld (pv 0) (pe_callB call_len_seq (by rfl) T.len PySem.boot_len (pa_cons (pv 1) pa_nil)) rfl) (pss_one (ps_fld (pv 0) pe_dnewK rfl)))))))))), ?_⟩
    refine ⟨_, rfl, _, rfl, _, rfl, vl, vd, vp, LL, DD, PP, rfl, keeps_looks _ _ _ _ s0 hl, keeps_drifts _ _ _ _ s0 hd, keeps_puts _ _ _ _ s0 hpp, O, fun H1 s1 => ?_⟩
    have s01 : Same H0 H1 := s0.trans s1
    have h1 : H1 p = some (.ins C dx []) := s1 _ _ hp
    obtain ⟨al, xl, rfl, hal, pl⟩ := id hl
    have nal : al ≠ p := ne_of_none hal p0
    refine ⟨_, rfl, _, rfl, p, C, dx, _, rfl, h1, KC.cl, KC.nkl, (by show 0 < 1000; decide), ?_⟩
    refine ⟨_, rfl, _, rfl, p, C, dx, _, rfl, upd_same, KC.cl, KC.nkd, Nat.lt_of_le_of_lt (len_put (n := 0) (Nat.le_refl _)) (by decide), ?_⟩
    refine ⟨_, rfl, _, rfl, p, C, dx, _, rfl, upd_same, KC.cl, KC.nkp, Nat.lt_of_le_of_lt (len_put (len_put (n := 0) (Nat.le_refl _))) (by decide), ?_⟩
    refine ⟨_, rfl, _, rfl, p, C, dx, _, rfl, upd_same, KC.cl, KC.nl, Nat.lt_of_le_of_lt (len_put (len_put (len_put (n := 0) (Nat.le_refl _)))) (by decide), ?_⟩
    refine ⟨_, rfl, _, rfl, p, C, dx, _, rfl, upd_same, KC.cl, KC.nd, Nat.lt_of_le_of_lt (len_put (len_put (len_put (len_put (n := 0) (Nat.le_refl _))))) (by decide), ?_⟩
    refine ⟨_, rfl, _, rfl, p, C, dx, _, rfl, upd_same, KC.cl, KC.np, Nat.lt_of_le_of_lt (len_put (len_put (len_put (len_put (len_put (n := 0) (Nat.le_refl _)))))) (by decide), ?_⟩
    refine ⟨_, rfl, al, xl, rfl, .inr (SqT.of ?_), ?_⟩
    · rw [upd_ne nal, upd_ne nal, upd_ne nal, upd_ne nal, upd_ne nal, upd_ne nal]
      exact s01 _ _ hal
    refine ⟨_, rfl, p, C, dx, _, rfl, upd_same, KC.cl, KC.ns, Nat.lt_of_le_of_lt (len_put (len_put (len_put (len_put (len_put (len_put (n := 0) (Nat.le_refl _))))))) (by decide), ?_⟩
    intro d nd
    have npd : p ≠ d := fun e => by
      rw [← e, upd_same] at nd
      cases nd
    refine ⟨_, rfl, p, C, dx, _, rfl, (upd_ne npd).trans upd_same, KC.cl, KC.nf, Nat.lt_of_le_of_lt (len_put (len_put (len_put (len_put (len_put (len_put (len_put (n := 0) (Nat.le_refl _)))))))) (by decide), ?_⟩
    have d0 : H1 d = none := by
      rw [upd_ne npd.symm, upd_ne npd.symm, upd_ne npd.symm, upd_ne npd.symm, upd_ne npd.symm, upd_ne npd.symm, upd_ne npd.symm] at nd
      exact nd
    refine k _ (fun b o e => ?_) ⟨dx, _, _, _, upd_same, look_skip (by decide +kernel) (look_skip (by decide +kernel) (look_skip (by decide +kernel) (look_skip (by decide +kernel) (look_skip (by decide +kernel) (look_skip (by decide +kernel) (look_skip (by decide +kernel) look_here)))))),
      look_skip (by decide +kernel) (look_skip (by decide +kernel) (look_skip (by decide +kernel) (look_skip (by decide +kernel) (look_skip (by decide +kernel) (look_skip (by decide +kernel) look_here))))),
      look_skip (by decide +kernel) (by rw [paired_len pl]; exact look_here), ?_, ?_⟩
    · have nbp : b ≠ p := ne_of_none e p0
      have nbd : b ≠ d := ne_of_none (s01 _ _ e) d0
      rw [upd_ne nbp, upd_ne nbd, upd_ne nbp, upd_ne nbp, upd_ne nbp, upd_ne nbp, upd_ne nbp, upd_ne nbp, upd_ne nbp]
      exact s01 _ _ e
    · refine keeps_looks H0 _ _ _ (fun b o e => ?_) hl
      have nbp : b ≠ p := ne_of_none e p0
      have nbd : b ≠ d := ne_of_none (s01 _ _ e) d0
      rw [upd_ne nbp, upd_ne nbd, upd_ne nbp, upd_ne nbp, upd_ne nbp, upd_ne nbp, upd_ne nbp, upd_ne nbp, upd_ne nbp]
      exact s01 _ _ e
    · refine keeps_drifts H0 _ _ _ (fun b o e => ?_) hd
      have nbp : b ≠ p := ne_of_none e p0
      have nbd : b ≠ d := ne_of_none (s01 _ _ e) d0
      rw [upd_ne nbp, upd_ne nbd, upd_ne nbp, upd_ne nbp, upd_ne nbp, upd_ne nbp, upd_ne nbp, upd_ne nbp, upd_ne nbp]
      exact s01 _ _ e
end
end K9

/-! rules of our own: any over ints, min over tuples of ints, sorted over a dict of one tuple key, raise X() -/
namespace K9
open PySem PySem.Spec PyProof.Rows L2
/-! ### the least of rows -/
theorem lexLt_trans : ∀ xs ys zs : List Int, lexLt xs ys = true → lexLt ys zs = true → lexLt xs zs = true
  | [], ys, [], h1, h2 => by cases ys <;> simp [lexLt] at h1 h2
  | [], _, _ :: _, _, _ => rfl
  | _ :: _, [], _, h1, _ => by simp [lexLt] at h1
  | _ :: _, _ :: _, [], _, h2 => by simp [lexLt] at h2
  | x :: xs, y :: ys, z :: zs, h1, h2 => by
    unfold lexLt at h1 h2 ⊢
    simp only [Bool.or_eq_true, Bool.and_eq_true, decide_eq_true_eq] at h1 h2 ⊢
    rcases h1 with h1 | ⟨h1, h3⟩ <;> rcases h2 with h2 | ⟨h2, h4⟩
    · exact .inl (by omega)
    · exact .inl (by omega)
    · exact .inl (by omega)
    · exact .inr ⟨by omega, lexLt_trans xs ys zs h3 h4⟩
theorem listLt_lex : ∀ xs ys : List Int, PySem.W.listLt xs ys = lexLt xs ys
  | [], [] => rfl
  | [], _ :: _ => rfl
  | _ :: _, [] => rfl
  | x :: xs, y :: ys => by
    show (if x = y then PySem.W.listLt xs ys else decide (x < y)) = (decide (x < y) || (decide (x = y) && lexLt xs ys))
    by_cases h : x = y
    · rw [if_pos h, listLt_lex xs ys]
      subst h
      simp
    · rw [if_neg h]
      simp [h]
theorem minOf_is : ∀ (xs : List (PySem.W.Tup Int)) (x : PySem.W.Tup Int), (PySem.W.minOf x xs = x ∨ PySem.W.minOf x xs ∈ xs) ∧ (∀ y, y = x ∨ y ∈ xs → lexLt y.items (PySem.W.minOf x xs).items = false)
  | [], x => ⟨.inl rfl, fun y hy => by
    rcases hy with rfl | hy
    · exact lexLt_irr _
    · cases hy⟩
  | z :: xs, x => by
    have e : PySem.W.minOf x (z :: xs) = PySem.W.minOf (if PySem.W.DatumOrd.lt z x = true then z else x) xs := rfl
    have el : PySem.W.DatumOrd.lt z x = lexLt z.items x.items := listLt_lex _ _
    rw [e, el]
    by_cases h : lexLt z.items x.items = true
    · rw [if_pos h]
      obtain ⟨i1, i2⟩ := minOf_is xs z
      refine ⟨.inr ?_, fun y hy => ?_⟩
      · rcases i1 with i1 | i1
        · rw [i1]
          exact List.mem_cons_self
        · exact List.mem_cons_of_mem _ i1
      · rcases hy with rfl | hy
        · cases q : lexLt y.items (PySem.W.minOf z xs).items with
          | false => rfl
          | true =>
            have := lexLt_trans _ _ _ h q
            rw [i2 z (.inl rfl)] at this
            cases this
        · rcases List.mem_cons.mp hy with rfl | hy
          · exact i2 y (.inl rfl)
          · exact i2 y (.inr hy)
    · rw [if_neg h]
      obtain ⟨i1, i2⟩ := minOf_is xs x
      refine ⟨?_, fun y hy => ?_⟩
      · rcases i1 with i1 | i1
        · exact .inl i1
        · exact .inr (List.mem_cons_of_mem _ i1)
      · rcases hy with rfl | hy
        · exact i2 y (.inl rfl)
        · rcases List.mem_cons.mp hy with rfl | hy
          · cases q : lexLt y.items (PySem.W.minOf x xs).items with
            | false => rfl
            | true =>
              have h0 : lexLt y.items x.items = false := by simpa using h
              rcases i1 with i1 | i1
              · rw [i1, h0] at q
                cases q
              · have hm := i2 x (.inl rfl)
                -- x is not less than the least, the least not less than y: by connexity
                cases q2 : lexLt (PySem.W.minOf x xs).items x.items with
                | true =>
                  have := lexLt_trans _ _ _ q q2
                  rw [h0] at this
                  cases this
                | false =>
                  have e2 := lexLt_conn _ _ hm q2
                  rw [← e2, h0] at q
                  cases q
          · exact i2 y (.inr hy)
section
variable {X : Cx}
/-! ### any over ints -/
def rAnyI (K : PySem.W.Frag) : List V → Hp → VK → Prop := fun vs H Q => ∃ (a : Addr) (ns : List Int), vs = [V.ref a] ∧ SqL K H a (ns.map V.int) ∧ Q (.bl ((ns.map PyData.int).any PyData.truthy)) H
theorem dp_ints (K : PySem.W.Frag) (H : Hp) : ∀ ns : List Int, DpAll K H (ns.map V.int) (ns.map PyData.int)
  | [] => .nil
  | n :: r => .cons (.int n) (dp_ints K H r)
theorem plain_ints : ∀ ns : List Int, PyData.plainAll (ns.map PyData.int) = true
  | [] => rfl
  | _ :: r => by
    show PyData.plainAll (.int _ :: r.map .int) = true
    rw [PyData.plainAll, plain_ints r]
    rfl
theorem cr_anyI (hc : X.calm = true) : CallR X (.builtin "any") (rAnyI X.K) := by
  intro pins s σ H vs us Q I r h
  obtain ⟨a, ns, rfl, hs, q⟩ := h
  obtain ⟨its, rv, hl, _⟩ := I.list hs
  rw [Vals.ref1 r]
  obtain ⟨as, hr⟩ := Dp.readsAll I _ _ _ (dp_ints X.K H ns) rv
  refine PySem.W.any_list_data (I.ok.hd hc) hl.isList (by simpa using hr) (plain_ints ns) (fun x hx => ?_) fun h' tk hk => ?_
  · obtain ⟨n, _, rfl⟩ := List.mem_map.mp hx
    first
      | trivial
      | simp [PySem.W.PyData.fits63]
  · exact ⟨.bl _, H, I.kept hk, rfl, q⟩
/-! ### min over tuples of ints -/
def rMinT (K : PySem.W.Frag) : List V → Hp → VK → Prop := fun vs H Q => ∃ (a : Addr) (vl : List V) (rs : List (List Int)), vs = [V.ref a] ∧ SqL K H a vl ∧ Paired (fun v r => ∃ b, v = V.ref b ∧ SqT K H b (r.map V.int)) vl rs ∧ rs ≠ [] ∧
  ∀ (i : Nat) (v : V) (r : List Int), vl[i]? = some v → rs[i]? = some r → (∀ r', r' ∈ rs → lexLt r' r = false) → Q v H
theorem holdAll_of {pins : List (Addr × Obj)} {σ : L2.St} {H : Hp} {s : Shared} (I : Inv X pins σ H s) : ∀ {vl : List V} {its : List Value} {rs : List (List Int)}, Vals vl its → Paired (fun v r => ∃ b, v = V.ref b ∧ SqT X.K H b (r.map V.int)) vl rs →
    PySem.W.HoldAll s.heap its (rs.map PySem.W.Tup.mk)
  | _, _, _, .nil, .nil => PySem.W.HoldAll.nil
  | _, _, _, .cons r rr, .cons p pp => by
    refine PySem.W.HoldAll.cons ?_ (holdAll_of I rr pp)
    obtain ⟨b, rfl, hb⟩ := p
    obtain ⟨as, q⟩ := Dp.reads I (.tuple _) _ _ (.tup hb (dp_ints X.K H _)) r
    exact ⟨as, q⟩
theorem cr_minT (hc : X.calm = true) (hu : X.A.units + 64 < cLine) : CallR X (.builtin "min") (rMinT X.K) := by
  intro pins s σ H vs us Q I r h
  obtain ⟨a, vl, rs, rfl, hs, pr, hne, q⟩ := h
  obtain ⟨its, rv, hl, _⟩ := I.list hs
  rw [Vals.ref1 r]
  have hh := holdAll_of I rv pr
  cases rs with
  | nil => exact absurd rfl hne
  | cons r0 rs =>
    refine PySem.W.min_list_datum (x := ⟨r0⟩) (xs := rs.map PySem.W.Tup.mk) (I.ok.hd hc) hl.isList (by simpa using hh) (by show X.A.units + 1 + 1 < cLine; omega) fun i v h' tk hi hm hk => ?_
    have hi2 : its[i]? = some v := by simpa using hi
    have I1 : Inv X pins σ H { s with heap := h', toks := tk } := I.kept hk
    obtain ⟨m, em, hv⟩ := hh.at hi2
    have em2 : (PySem.W.minOf (PySem.W.Tup.mk r0) (rs.map PySem.W.Tup.mk)) = m := by
      obtain ⟨as, r1⟩ := hm
      obtain ⟨bs, r2⟩ := PySem.W.Holds.keeps hk hv
      have z := (Reads.unique r1 _ _ r2).1
      have z2 := PySem.W.Datum.eqv (PySem.W.minOf (PySem.W.Tup.mk r0) (rs.map PySem.W.Tup.mk)) m
      rw [z] at z2
      have z3 : decide (m = m) = true := decide_eq_true rfl
      rw [PySem.W.Datum.eqv, z3] at z2
      exact of_decide_eq_true z2.symm
    rw [List.getElem?_map] at em
    obtain ⟨rm, erm, rfl⟩ : ∃ rm, (r0 :: rs)[i]? = some rm ∧ PySem.W.Tup.mk rm = m := by
      cases e : (r0 :: rs)[i]? with
      | none => rw [e] at em; cases em
      | some rm =>
        rw [e] at em
        exact ⟨rm, rfl, Option.some.inj em⟩
    obtain ⟨v0, ev0, b, rfl, hb⟩ := paired_get' pr erm
    obtain ⟨u, eu, ru⟩ := Vals.get rv ev0
    rw [hi2] at eu
    cases eu
    obtain ⟨m1, m2⟩ := minOf_is (rs.map PySem.W.Tup.mk) (PySem.W.Tup.mk r0)
    rw [em2] at m2
    refine ⟨V.ref b, H, I1, ru, q i _ rm ev0 erm fun r' hr' => ?_⟩
    refine m2 ⟨r'⟩ ?_
    rcases List.mem_cons.mp hr' with rfl | hr'
    · exact .inl rfl
    · exact .inr (List.mem_map.mpr ⟨r', hr', rfl⟩)

/-! ### sorted over a dict of one tuple key -/
def rSortD (_ : PySem.W.Frag) : List V → Hp → VK → Prop := fun vs H Q => ∃ (d : Addr) (x y : Int) (v : V), vs = [V.ref d] ∧ H d = some (.dT [([Sum.inl x, Sum.inl y], v)]) ∧
  ∀ (p b : Addr), H p = none → H b = some (.tup [.int x, .int y]) → Q (.ref p) (upd H p (.lst [V.ref b]))
theorem cr_sortD (hc : X.calm = true) (hu : X.A.units + 64 < cLine) : CallR X (.builtin "sorted") (rSortD X.K) := by
  intro pins s σ H vs us Q I r h
  obtain ⟨d, x, y, v, rfl, hd, q⟩ := h
  obtain ⟨u, rfl, rx⟩ := r.one
  cases rx
  obtain ⟨z, hs, ks, pr, o, es, ep, ho, hx, hdt, he, hn⟩ := (show ObjOk X.prog X.w H s.heap d (.dT [([Sum.inl x, Sum.inl y], v)]) from I.hok d _ hd)
  cases pr with
  | cons p1 pr =>
    cases pr
    rename_i k0
    obtain ⟨k1, b, v1⟩ := k0
    obtain ⟨e1, hb, _⟩ := p1
    have hb2 : H b = some (.tup [.int x, .int y]) := hb
    have l1 : es.size = 1 := size_of_entries he
    refine Calls.call_function_entry PyProof.Rows.kind_sorted PyProof.Rows.plain_sorted PyProof.Rows.entry_sorted (PyProof.Rows.args_sorted1 _) ?_
    unfold Builtin.«sorted»
    refine wpAny_bind (m := checkCount "sorted" 1 1 _) (wpAny_pure ?_)
    refine wpAny_bind (PySem.W.kdu_collect (A := X.A.in1) (kdl_raw hs hx hdt) (I.ok.hd hc) ho (by rw [l1, sizeLine_eq]; omega) fun h' tk acc hk hacc => ?_)
    have hal : acc.toList.length = 1 := by rw [Array.length_toList, hacc.1, l1]
    have ea : acc.toList = [Value.ref b] := by
      obtain ⟨w0, ew⟩ : ∃ w0, acc.toList = [w0] := by
        match acc.toList, hal with
        | [w0], _ => exact ⟨w0, rfl⟩
      obtain ⟨en, hen, hv⟩ := hacc.2 0 w0 (by rw [← Array.getElem?_toList, ew]; rfl)
      have qe := entry_at he 0
      rw [hen] at qe
      have e2 : en = entryOfKey (tupleKind (mixKind X.prog X.w)) (k1, b, v1) := Option.some.inj qe
      rw [ew, hv, e2]
      rfl
    have I1 : Inv X pins σ H { s with heap := h', toks := tk } := I.kept hk
    refine wpAny_bind (wpAny_newList ?_ (by rw [hal, sizeLine_eq]; omega))
    have hoL : (h'.push (seqObj "list" acc.toList.toArray 0)).get? h'.objs.size = some (seqObj "list" acc.toList.toArray 0) := Heap.get?_push_size _ rfl
    show wpAny _ _ _ _ _ { s with heap := h'.push (seqObj "list" acc.toList.toArray 0), toks := tk }
    have I2 : Inv X pins σ H { s with heap := h'.push (seqObj "list" acc.toList.toArray 0), toks := tk } := I1.kept (t' := tk) fun b u e => Heap.get?_push_of_some _ e
    have hrd0 : Reads h' (.ref b) (.tuple [.int x, .int y]) [] := by
      obtain ⟨its, rv, ⟨o1, e1, c1, n1, d1⟩, _⟩ := I1.tuple (SqT.of hb2 : SqT X.K H b [.int x, .int y])
      cases rv with
      | cons rx1 rv =>
        cases rv with
        | cons ry1 rv =>
          cases rv
          obtain ⟨t1, rfl⟩ := rx1
          obtain ⟨t2, rfl⟩ := ry1
          exact .tuple e1 c1 d1 (.cons (.int x t1) (.cons (.int y t2) .nil))
    have hrd2 : Reads (h'.push (seqObj "list" acc.toList.toArray 0)) (.ref b) (.tuple [.int x, .int y]) [] := PyProof.Rows.Reads.keeps (fun b u e => Heap.get?_push_of_some _ e) hrd0
    have ev : PySem.W.EachIs (fun (v : Value) (_ : Unit) => v = Value.ref b) acc.toList [()] := by
      rw [ea]
      exact .cons rfl .nil
    refine wpAny_bind (wpAny_holding (PySem.W.list_sort_data (β := Unit) (bs := [()]) (enc := fun _ => .tuple [.int x, .int y]) (R := fun v _ => v = Value.ref b) (s := { s with heap := h'.push (seqObj "list" acc.toList.toArray 0), toks := tk }) hoL
      ev (ev.mono fun v _ hv => by subst hv; exact ⟨[], hrd2, by simp⟩) (fun d hd d' hd' => ?_) (.inl fun d hd => ?_) (by show 1 ≤ sizeLine; decide) (fun _ _ => ?_) fun out h1 h2 => ?_))
    · have q1 : d = .tuple [.int x, .int y] := by simpa using hd
      have q2 : d' = .tuple [.int x, .int y] := by simpa using hd'
      rw [q1, q2]
      simp [PySem.W.alike, PySem.W.alikeAll]
    · have q1 : d = .tuple [.int x, .int y] := by simpa using hd
      exact ⟨_, _, q1⟩
    · show X.A.in1.units + 1 + (PyData.tuple [.int x, .int y]).depth < cLine
      have e3 : X.A.in1.units = X.A.units + 1 := rfl
      have e4 : (PyData.tuple [.int x, .int y]).depth ≤ 2 := by simp [PyData.depth, PyData.depthAll]
      omega
    · have eo : out = [Value.ref b] := by
        have h3 : List.mergeSort [()] (PySem.W.dataLe false fun _ => PyData.tuple [.int x, .int y]) = [()] := by simp
        rw [h3] at h2
        cases h2 with
        | cons c1 c2 =>
          cases c2
          rw [c1]
      obtain ⟨e', he'⟩ := PyProof.Rows.sortedHeap_at (vs := acc.toList) (out := List.toArray out) hoL
      refine wpAny_pure ⟨_, rfl, .ref h'.objs.size, upd H h'.objs.size (.lst [V.ref b]), I1.laid (t' := tk) (fun c u e => ?_) (Nat.le_refl _)
        (show ObjOk X.prog X.w _ _ _ (.lst [V.ref b]) from ⟨by show 1 ≤ sizeLine; decide, [Value.ref b], e', .cons rfl .nil, by rw [← eo]; exact he'⟩), rfl, q _ b (I1.hok.fresh (Nat.le_refl _)) hb2⟩
      have hlt : c < h'.objs.size := Heap.lt_size e
      rw [PyProof.Rows.sortedHeap_old (Nat.ne_of_lt hlt) (by rw [size_push']; exact Nat.lt_succ_of_lt hlt)]
      exact Heap.get?_push_of_some _ e
end
/-! ### raise X(), X an own class without __init__ -/
section
variable {X : Cx} {C : Addr} {bmB : List Value} {B newId initId : String}
theorem pmk_own0 {x : Str} {p pos : Pos} (F : ExcBaseFacts B newId initId bmB) (q : PySem.W.excIn X.K C bmB newId = true) (gC : X.mg x = some (.ref C)) (kC : PySem.W.keepIn X.K (.ref C) = true) (r : Raises X (.ref C)) (hg : Gl X x)
    (hdb : (x == ("__debug__" : Str)) = false := by decide) : PMk X (.Call (.Name x p) [] [] pos) (fun _ H Q => Q (.ref C) none H) := by
  intro pins s σ H Q I h
  refine wpAny_Call_Name_kw (ld_glob I hg gC ?_ hdb)
  refine PySem.W.callWith_K0 I.kIn kC ?_
  show wpAny _ _ (call (.ref C) []) _ _ _
  obtain ⟨bm, N, nm, qn, bs, hdct, sn, sub, ab, col, dd, k0, k1, k2, k3, k5, mN, hC, hN, hni, T⟩ := exc_obj I.kIn q
  refine wpAny_call_exc_subT F T hC hN hni (fun h' e hm => ?_) (by show 0 ≤ sizeLine; exact Nat.zero_le _)
  exact mk_of I hm r h (I.hok.gone hm.new)
end
end K9

/-! comprehensions whose elements stand for known things -/
namespace K9
open PySem PySem.Spec PyProof.Rows L2
/-- the tuples stay -/
def Tups (H H' : Hp) : Prop := ∀ b xs, H b = some (.tup xs) → H' b = some (.tup xs)
theorem Tups.of {H H' : Hp} (s : Same H H') : Tups H H' := fun b xs e => s _ _ e
theorem Tups.trans {H H1 H2 : Hp} (a : Tups H H1) (b : Tups H1 H2) : Tups H H2 := fun c xs e => b c xs (a c xs e)
theorem tups_upd {H : Hp} {D : Addr} {o u : HO} (h : H D = some u) (n : ∀ xs, u ≠ .tup xs) : Tups H (upd H D o) := fun b xs e => by
  have nb : b ≠ D := fun z => by
    rw [z, h] at e
    exact n xs (Option.some.inj e)
  rw [upd_ne nb]
  exact e
def KeepsT {α : Type} (R : Hp → V → α → Prop) : Prop := ∀ H H' v x, Tups H H' → R H v x → R H' v x
theorem kt_pair : KeepsT PairV := fun _ _ _ _ s ⟨a, e, h⟩ => ⟨a, e, s _ _ h⟩
theorem kt_ints : KeepsT IntsV := fun _ _ _ _ s ⟨a, e, h⟩ => ⟨a, e, s _ _ h⟩
theorem kt_put : KeepsT PutV := fun _ _ _ _ s ⟨a, u, e, h, i⟩ => ⟨a, u, e, s _ _ h, kt_ints _ _ _ _ s i⟩
theorem kt_tup {α : Type} {R : Hp → V → α → Prop} (k : KeepsT R) : KeepsT (TupOf R) := fun _ _ _ _ s ⟨a, vs, e, h, p⟩ => ⟨a, vs, e, s _ _ h, Paired.mapP p fun _ _ q => k _ _ _ _ s q⟩
theorem kt_row : KeepsT RowV := kt_tup kt_pair
theorem kt_looks : KeepsT LooksV := kt_tup kt_row
theorem kt_drifts : KeepsT DriftsV := kt_tup kt_ints
theorem kt_puts : KeepsT PutsV := kt_tup kt_put
/-- a value known ahead -/
def IsV (_ : Hp) (v : V) (x : V) : Prop := v = x
theorem kt_is : KeepsT IsV := fun _ _ _ _ _ h => h
theorem paired_is {H : Hp} : ∀ {vs xs : List V}, Paired (IsV H) vs xs → vs = xs
  | _, _, .nil => rfl
  | _, _, .cons r t => by rw [show _ = _ from r, paired_is t]
theorem paired_snoc {α β : Type} {R : α → β → Prop} : ∀ {xs : List α} {ys : List β} {x : α} {y : β}, Paired R xs ys → R x y → Paired R (xs ++ [x]) (ys ++ [y])
  | _, _, _, _, .nil, r => .cons r .nil
  | _, _, _, _, .cons p t, r => .cons p (paired_snoc t r)
theorem map_range_succ {α : Type} (g : Nat → α) (i : Nat) : (List.range (i + 1)).map g = (List.range i).map g ++ [g i] := by
  rw [List.range_succ, List.map_append]
  rfl
/-- what holds of the new list behind i turns -/
def LcInv {α : Type} (R : Hp → V → α → Prop) (g : Nat → α) (H : Hp) (D : Addr) (i : Nat) (H' : Hp) : Prop := Same H H' ∧ ∃ vs, H' D = some (.lst vs) ∧ Paired (R H') vs ((List.range i).map g)
section
variable {α : Type} {R : Hp → V → α → Prop} {g : Nat → α} {K : PySem.W.Frag} {a : Addr} {xs : List V} {j : Nat} {te : TE} {ws : List Nat} {σ : L2.St} {H : Hp} {Q : VK}
theorem lcinv_0 {D : Addr} (nD : H D = none) : LcInv R g H D 0 (upd H D (.lst [])) := ⟨same_new nD, [], upd_same, .nil⟩
/-- one element more -/
theorem lcinv_step {D : Addr} {i : Nat} {H' H'' : Hp} {v : V} (kR : KeepsT R) (nD : H D = none) (hi : i < 1000) (p : LcInv R g H D i H') (s : Same H' H'') (r : R H'' v (g i)) :
    ∃ acc, H'' D = some (.lst acc) ∧ acc.length < sizeLine ∧ LcInv R g H D (i + 1) (upd H'' D (.lst (acc ++ [v]))) := by
  obtain ⟨s1, vs, hD, pr⟩ := p
  have tu : Tups H'' (upd H'' D (.lst (vs ++ [v]))) := tups_upd (s _ _ hD) fun xs z => nomatch z
  refine ⟨vs, s _ _ hD, ?_, same_over nD (s1.trans s), _, upd_same, ?_⟩
  · have e := paired_len pr
    rw [List.length_map, List.length_range] at e
    rw [e]
    exact line_of (by omega)
  · rw [map_range_succ]
    exact paired_snoc (Paired.mapP pr fun _ _ q => kR _ _ _ _ ((Tups.of s).trans tu) q) (kR _ _ _ _ tu r)
end
end K9

/-! sure kinds: sure or not -/
namespace K9
open PySem PySem.Spec PyProof.Rows L2
theorem map_range_getD {α β : Type} (f : α → β) (d : α) (l : List α) : (List.range l.length).map (fun i => f (l.getD i d)) = l.map f := by
  apply List.ext_getElem?
  intro i
  by_cases h : i < l.length
  · simp [h]
  · rw [List.getElem?_eq_none (by simp; omega), List.getElem?_eq_none (by simp; omega)]
theorem getD_at {α : Type} {l : List α} {i : Nat} {x d : α} (h : l[i]? = some x) : l.getD i d = x := by
  simp [List.getD, h]
/-- len of a tuple or a list -/
abbrev rLenS (K : PySem.W.Frag) : List V → Hp → VK → Prop := fun xs H Q => ∃ p ys, xs = [.ref p] ∧ (SqL K H p ys ∨ SqT K H p ys) ∧ Q (.int ys.length) H
/-- each look has one outcome, there are no drifts -/
def isSure (LL : List (List (Int × Int))) (DD : List (List Int)) : Bool := LL.all (fun r => decide (r.length = 1)) && DD.all (fun d => decide (d.length = 0))
/-- a def that may raise, known by name -/
structure CalX (P : Program) (w : World) (K : PySem.W.Frag) (mg : Str → Option Value) (base : Heap) (k : Nat) (x : Str) (sp : Sp) : Prop where
  ex : ∃ (f : Addr) (fd : FuncData) (ps : List Str), FnOk P w K mg base (L2.CX P w) k f fd ps sp ∧ mg x = some (.ref f) ∧ PySem.W.keepIn K (.ref f) = true ∧ Binds K fd ps []
theorem pe_cX {X : Cx} {k j : Nat} {x : Str} {sp : Sp} {E : XK} {p pos : Pos} {e : Expr} {es : List Expr} {t : TA} (c : CalX X.prog X.w X.K X.mg X.base k x sp) (hr : Room j X.A) (hk : k ≤ j) (hg : Gl X x) (hx : Passes (L2.CX X.prog X.w) X E) (ha : PA X (e :: es) t)
    (hdb : (x == ("__debug__" : Str)) = false := by decide) (he : starEach (e :: es) X.env = (false, eval e X.env) :: starEach es X.env := by rfl) (hpl : (backTo pos (starEach es X.env)).any (·.1) = false := by rfl) :
    PE X (.Call (.Name x p) (e :: es) [] pos) (tCall sp [] E t) := by
  obtain ⟨f, fd, ps, F, hm, kp, b⟩ := c.ex
  exact pe_call F (hr.mono hk) hg hm kp b .nil hx ha hdb he hpl
section
variable {P : Program} {w : World} {K : PySem.W.Frag} {mg : Str → Option Value} {base : Heap} {C : Addr}
/-- a def that may raise, by its body -/
theorem calX_of {x : Str} {st : Stmt} {N ps : List Str} {k : Nat} {sp : Sp} (F : Known K mg x st) (S : FnScope N ps (defScope st))
    (hb : ∀ (kV doc pm : Value) (an : Option Addr) (cdv ct : Value) (us : List Value), us.length = ps.length → bindArgs (PySem.W.fnOf x x (defArgs st) (defBody st) (defScope st) .none kV doc pm an cdv ct) ⟨us, []⟩ = pure (ps.zip us))
    (len : ∀ vs H Q E, sp vs H Q E → vs.length = ps.length)
    (hbody : ∀ (f : Addr) (cdv : Value) (A : Around) (outer : List Env) (s : Shared) (H : Hp) (vs : List V) (Q : VK) (E : XK), Room k (A.deeper (envOfC x (defScope st) s.heap.objs.size f cdv)) → sp vs H Q E →
      ∃ t, PSs (cxOf (L2.CX P w) P w K mg base N x (defScope st) f cdv A outer s H E) (defBody st) t ∧ t { nx := fun _ H' => Q .non H', rt := Q } (start N vs) H) : CalX P w K mg base (k + 1) x sp := by
  obtain ⟨f, fd, F, hm⟩ := F.ex
  exact ⟨f, fd, ps, F.ok S len (fun cdv A outer s H vs Q E hr h => hbody f cdv A outer s H vs Q E hr h), hm, F.kp, F.bindsN hb⟩
/-! ### check_standing -/
def spCheckStanding (C : Addr) : Sp := fun vs H Q _ => ∃ (p : Addr) (LL : List (List (Int × Int))) (DD : List (List Int)) (s : Int), vs = [.ref p, .int s] ∧ KindAt C H p LL DD ∧ 0 ≤ s ∧ s < (LL.length : Int) ∧ Q .non H
theorem sc23 : FnScope ["kind", "standing"] ["kind", "standing"] (defScope (top 23)) := ⟨rfl, rfl, rfl, by decide +kernel, rfl, by decide +kernel, by decide +kernel⟩
theorem cal_check_standing (F : Known K mg "check_standing" (top 23)) (KC : KindC K mg C) (ci : Cal P w K mg base 2 "is_index" spIsIndex) : Cal P w K mg base 3 "check_standing" (spCheckStanding C) := by
  refine cal_of F sc23 (fun _ _ _ _ _ _ us hl => match us, hl with | [_, _], _ => rfl) (fun vs H Q E h => ?_) (fun f cdv A outer s H vs Q E hr h => ?_)
  · obtain ⟨p, LL, DD, n, rfl, _⟩ := h
    rfl
  · obtain ⟨p, LL, DD, n, rfl, ⟨dx, fs, vl, vd, hp, h1, h2, h3, h4, h5⟩, n0, n1, k⟩ := h
    refine ⟨_, pss_one (ps_if (pt_not (pt_val (C8.pe_c ci hr (by decide) (by rfl) (pa_cons (pv 1) (pa_cons (pe_fld (pv 0) rfl) pa_nil))))) (pss_one ps_never) pss_nil), ?_⟩
    exact ⟨_, rfl, _, rfl, p, C, dx, fs, _, rfl, hp, KC.cl, KC.ns, h3, n, _, rfl, n0, n1, true, rfl, iteF k⟩
/-! ### is_sure, sure -/
def spIsSure (C : Addr) : Sp := fun vs H Q _ => ∃ (p : Addr) (LL : List (List (Int × Int))) (DD : List (List Int)), vs = [.ref p] ∧ KindAt C H p LL DD ∧ LL.length ≤ 1000 ∧ DD.length ≤ 1000 ∧ ∀ H', Same H H' → Q (.bl (isSure LL DD)) H'
theorem sc25 : FnScope ["kind", "outcomes", "row"] ["kind"] (defScope (top 25)) := ⟨rfl, rfl, rfl, by decide +kernel, rfl, by decide +kernel, by decide +kernel⟩
theorem all_one (LL : List (List (Int × Int))) : ((List.range LL.length).map fun i => decide (V.int ((LL.getD i []).length : Int) = V.int 1)).all id = LL.all (fun r => decide (r.length = 1)) := by
  rw [map_range_getD (fun r : List (Int × Int) => decide (V.int (r.length : Int) = V.int 1)), List.all_map]
  congr 1
  funext r
  show decide (V.int (r.length : Int) = V.int 1) = decide (r.length = 1)
  rw [dec_int, Bool.eq_iff_iff, beq_iff_eq, decide_eq_true_eq]
  omega
theorem any_no (DD : List (List Int)) : (!((((List.range DD.length).map fun i => ((DD.getD i []).length : Int)).map PyData.int).any PyData.truthy)) = DD.all (fun d => decide (d.length = 0)) := by
  rw [map_range_getD (fun d : List Int => (d.length : Int)), List.map_map, List.any_map, List.not_any_eq_all_not]
  congr 1
  funext d
  show (!PyData.truthy (.int (d.length : Int))) = decide (d.length = 0)
  unfold PyData.truthy
  rw [Bool.eq_iff_iff]
  simp
theorem cal_is_sure (F : Known K mg "is_sure" (top 25)) (T : Free mg) (KC : KindC K mg C) : Cal P w K mg base 1 "is_sure" (spIsSure C) := by
  refine cal_of F sc25 (fun _ _ _ _ _ _ us hl => match us, hl with | [_], _ => rfl) (fun vs H Q E h => ?_) (fun f cdv A outer s H vs Q E hr h => ?_)
  · obtain ⟨p, LL, DD, rfl, _⟩ := h
    rfl
  · obtain ⟨p, LL, DD, rfl, ⟨dx, fs, vl, vd, hp, h1, h2, h3, ⟨al, xl, rfl, hal, pl⟩, ⟨ad, xd, rfl, had, pd⟩⟩, n0, n1, k⟩ := h
    have ll := paired_len pl
    have ld := paired_len pd
    refine ⟨_, pss_one (ps_ret (pe_and (pe_callB (cr_all rfl) (by rfl) T.all (by decide +kernel) (pa_cons (pe_lc (own := [("outcomes", 1)]) (g := gName 1) (tt := tYes) rfl sc25.nd
          (pi_tup (pe_fld (pv 0) rfl)) (blkOk_by (own := [("outcomes", 1)]) (N := ["kind", "outcomes", "row"]) (sc := defScope (top 25)) (by decide +kernel))
          (fun _ _ _ _ _ => pg_name (i := 1) sc25.nd rfl (Or.inl rfl)) (fun _ _ _ _ _ => pts_nil)
          (fun _ _ _ _ _ => pe_cmpR (r := rEq) op_eq (pe_callB (r := rLenS K) call_len_seq (by rfl) T.len PySem.boot_len (pa_cons (pv 1) pa_nil)) pe_int (nomark _))) pa_nil))
      (pe_one (pe_not (pe_callB (cr_anyI rfl) (by rfl) T.any (by decide +kernel) (pa_cons (pe_lc (own := [("row", 2)]) (g := gName 2) (tt := tYes) rfl sc25.nd
          (pi_tup (pe_fld (pv 0) rfl)) (blkOk_by (own := [("row", 2)]) (N := ["kind", "outcomes", "row"]) (sc := defScope (top 25)) (by decide +kernel))
          (fun _ _ _ _ _ => pg_name (i := 2) sc25.nd rfl (Or.inl rfl)) (fun _ _ _ _ _ => pts_nil)
          (fun _ _ _ _ _ => pe_callB (r := rLenS K) call_len_seq (by rfl) T.len PySem.boot_len (pa_cons (pv 2) pa_nil))) pa_nil)))))), ?_⟩
    refine ⟨_, rfl, p, C, dx, fs, _, rfl, hp, KC.cl, KC.nkl, h1, al, rfl, ⟨_, SqT.of hal⟩, fun D nD => ?_⟩
    refine lc_tup (K := K) (a := al) (xs := xl) (fun i H' => LcInv IsV (fun i => V.bl (decide (V.int ((LL.getD i []).length : Int) = V.int 1))) H D i H') (lcinv_0 nD) (fun i H' _ p => SqT.of (p.1 _ _ hal)) (fun i x H' hx p => ?_) (fun H1 ⟨s1, vs, hD, pr⟩ => ?_)
    · obtain ⟨r, hr, b, ys, rfl, hb, py⟩ := paired_get pl hx
      have hi := (List.getElem?_eq_some_iff.mp hx).1
      refine ⟨rfl, yes_of ?_⟩
      refine ⟨_, rfl, b, ys, rfl, .inr (SqT.of (p.1 _ _ hb)), rfl, lcinv_step kt_is nD (by omega) p (Same.refl H') ?_⟩
      show V.bl (decide (V.int (ys.length : Int) = V.int 1)) = V.bl (decide (V.int ((LL.getD i []).length : Int) = V.int 1))
      rw [paired_len py, getD_at hr]
    · rw [paired_is pr, ll] at hD
      have hD2 : H1 D = some (.lst (((List.range LL.length).map fun i => decide (V.int ((LL.getD i []).length : Int) = V.int 1)).map V.bl)) := by
        rw [hD, List.map_map]
        rfl
      refine ⟨D, _, rfl, SqL.of hD2, _, rfl, ?_⟩
      rw [all_one]
      cases e : LL.all (fun r => decide (r.length = 1)) with
      | false =>
        refine iteF ?_
        refine bl_of (Q := Q) ?_ (k H1 s1)
        unfold isSure
        rw [e]
        rfl
      | true =>
        refine iteT ?_
        refine ⟨_, rfl, p, C, dx, fs, _, rfl, s1 _ _ hp, KC.cl, KC.nkd, h2, ad, rfl, ⟨_, SqT.of (s1 _ _ had)⟩, fun D2 nD2 => ?_⟩
        refine lc_tup (K := K) (a := ad) (xs := xd) (fun i H' => LcInv IsV (fun i => V.int ((DD.getD i []).length : Int)) H1 D2 i H') (lcinv_0 nD2) (fun i H' _ p => SqT.of (p.1 _ _ (s1 _ _ had))) (fun i x H' hx p => ?_) (fun H2 ⟨s2, vs2, hD2, pr2⟩ => ?_)
        · obtain ⟨r, hr, b, rfl, hb⟩ := paired_get pd hx
          have hi := (List.getElem?_eq_some_iff.mp hx).1
          refine ⟨rfl, yes_of ?_⟩
          refine ⟨_, rfl, b, _, rfl, .inr (SqT.of ((s1.trans p.1) _ _ hb)), lcinv_step kt_is nD2 (by omega) p (Same.refl H') ?_⟩
          show V.int ((r.map V.int).length : Int) = V.int ((DD.getD i []).length : Int)
          rw [List.length_map, getD_at hr]
        · rw [paired_is pr2, ld] at hD2
          have hD3 : H2 D2 = some (.lst (((List.range DD.length).map fun i => ((DD.getD i []).length : Int)).map V.int)) := by
            rw [hD2, List.map_map]
            rfl
          refine ⟨D2, _, rfl, SqL.of hD3, _, rfl, ?_⟩
          refine bl_of (Q := Q) ?_ (k H2 (s1.trans s2))
          unfold isSure
          rw [any_no, e]
          rfl
theorem sc26 : FnScope ["kind"] ["kind"] (defScope (top 26)) := ⟨rfl, rfl, rfl, by decide +kernel, rfl, by decide +kernel, by decide +kernel⟩
theorem cal_sure (F : Known K mg "sure" (top 26)) (ci : Cal P w K mg base 1 "is_sure" (spIsSure C)) : Cal P w K mg base 2 "sure" (spIsSure C) := by
  refine cal_of F sc26 (fun _ _ _ _ _ _ us hl => match us, hl with | [_], _ => rfl) (fun vs H Q E h => ?_) (fun f cdv A outer s H vs Q E hr h => ?_)
  · obtain ⟨p, LL, DD, rfl, _⟩ := h
    rfl
  · obtain ⟨p, LL, DD, rfl, h1, h2, h3, k⟩ := h
    exact ⟨_, pss_one (ps_ret (C8.pe_c ci hr (by decide) (by rfl) (pa_cons (pv 0) pa_nil))), _, rfl, p, LL, DD, rfl, h1, h2, h3, k⟩
/-! ### check_sure -/
/-- the error's class as the top has made it -/
structure ErrC (K : PySem.W.Frag) (mg : Str → Option Value) (CN : Addr) : Prop where
  mgc : mg "NotSure" = some (.ref CN)
  exc : PySem.W.excIn K CN [.type "ValueError", .type "Exception", .type "BaseException", .type "object"] "ValueError.__new__" = true
  kp : PySem.W.keepIn K (.ref CN) = true
  sub : PySem.W.subIn K (.ref CN) (.type "BaseException") = some true
  ty : PySem.W.typeIn K (.ref CN) = some (.type "type")
  exm : PySem.W.exmOne K (.ref CN) (.ref CN) = some true
def spCheckSure (C CN : Addr) : Sp := fun vs H Q E => ∃ (p : Addr) (LL : List (List (Int × Int))) (DD : List (List Int)), vs = [.ref p] ∧ KindAt C H p LL DD ∧ LL.length ≤ 1000 ∧ DD.length ≤ 1000 ∧
  (isSure LL DD = true → ∀ H', Same H H' → Q .non H') ∧ (isSure LL DD = false → ∀ H', Same H H' → E (.ref CN) none H')
theorem sc27 : FnScope ["kind"] ["kind"] (defScope (top 27)) := ⟨rfl, rfl, rfl, by decide +kernel, rfl, by decide +kernel, by decide +kernel⟩
theorem cal_check_sure {CN : Addr} (F : Known K mg "check_sure" (top 27)) (EC : ErrC K mg CN) (ci : Cal P w K mg base 1 "is_sure" (spIsSure C)) : CalX P w K mg base 2 "check_sure" (spCheckSure C CN) := by
  refine calX_of F sc27 (fun _ _ _ _ _ _ us hl => match us, hl with | [_], _ => rfl) (fun vs H Q E h => ?_) (fun f cdv A outer s H vs Q E hr h => ?_)
  · obtain ⟨p, LL, DD, rfl, _⟩ := h
    rfl
  · obtain ⟨p, LL, DD, rfl, h1, h2, h3, k1, k2⟩ := h
    refine ⟨_, pss_one (ps_if (pt_not (pt_val (C8.pe_c ci hr (by decide) (by rfl) (pa_cons (pv 0) pa_nil))))
      (pss_one (ps_raise rfl (takes_of rfl rfl rfl rfl) (pmk_own0 PySem.F.excBase_ValueError EC.exc EC.mgc EC.kp (raises_own EC.sub EC.ty) (by rfl)))) pss_nil), ?_⟩
    refine ⟨_, rfl, p, LL, DD, rfl, h1, h2, h3, fun H1 s1 => ⟨_, rfl, ?_⟩⟩
    cases e : isSure LL DD with
    | true => exact iteF (k1 e H1 s1)
    | false => exact iteT (k2 e H1 s1)
end
end K9

/-! the track of a standing -/
namespace K9
open PySem PySem.Spec PyProof.Rows L2
/-! ### a sure kind's looks, read -/
theorem look_at {H : Hp} {xl : List V} {L : List (Int × Int)} {s : Nat} (pl : Paired (RowV H) xl (L.map fun p => [p])) (ok : Ok L) (hs : s < L.length) :
    ∃ b c, xl[s]? = some (.ref b) ∧ H b = some (.tup [.ref c]) ∧ H c = some (.tup [.int (ans L s), .int (nxt L s : Int)]) := by
  obtain ⟨e, _⟩ := nxt_at ok hs
  obtain ⟨x, hx, b, ys, rfl, hb, py⟩ := paired_get' pl (show (L.map fun p => [p])[s]? = some [(ans L s, (nxt L s : Int))] by rw [List.getElem?_map, e]; rfl)
  cases py with
  | cons q1 q2 =>
    cases q2
    obtain ⟨c, rfl, hc⟩ := q1
    exact ⟨b, c, hx, hb, hc⟩
/-! ### the places -/
def trackK (L : List (Int × Int)) (s k : Nat) : List (Key × V) := (List.range k).map fun i => (Sum.inl (wk L s i : Int), V.int (i : Int))
theorem trackK_succ (L : List (Int × Int)) (s k : Nat) : trackK L s (k + 1) = trackK L s k ++ [(Sum.inl (wk L s k : Int), V.int (k : Int))] := by
  unfold trackK
  rw [List.range_succ, List.map_append]
  rfl
theorem trackK_len (L : List (Int × Int)) (s k : Nat) : (trackK L s k).length = k := by simp [trackK]
theorem valV_snoc {κ : Type} [DecidableEq κ] (l : List (κ × V)) (p : κ × V) (x : κ) : valV (l ++ [p]) x = (match valV l x with | some v => some v | none => if p.1 = x then some p.2 else none) := by
  induction l with
  | nil =>
    by_cases h : p.1 = x
    · rw [if_pos h]
      exact valV_pos h
    · rw [if_neg h]
      exact valV_neg h
  | cons q r ih =>
    by_cases h : q.1 = x
    · rw [List.cons_append, valV_pos h, valV_pos h]
    · rw [List.cons_append, valV_neg h, valV_neg h]
      exact ih
theorem valV_track (L : List (Int × Int)) (s x : Nat) : ∀ k, (valV (trackK L s k) (Sum.inl (x : Int)) = none ∧ ∀ i, i < k → wk L s i ≠ x) ∨ (∃ b, b < k ∧ wk L s b = x ∧ valV (trackK L s k) (Sum.inl (x : Int)) = some (.int (b : Int)))
  | 0 => .inl ⟨rfl, fun i hi => absurd hi (Nat.not_lt_zero _)⟩
  | k + 1 => by
    rw [trackK_succ, valV_snoc]
    rcases valV_track L s x k with ⟨h1, h2⟩ | ⟨b, h1, h2, h3⟩
    · rw [h1]
      by_cases h : wk L s k = x
      · refine .inr ⟨k, Nat.lt_succ_self k, h, ?_⟩
        have e : ((Sum.inl (wk L s k : Int) : Key) = Sum.inl (x : Int)) := by rw [h]
        simp only [e, if_true]
      · refine .inl ⟨?_, fun i hi => ?_⟩
        · have e : ¬ ((Sum.inl (wk L s k : Int) : Key) = Sum.inl (x : Int)) := fun q => h (by have := Sum.inl.inj q; omega)
          simp only [e, if_false]
        · by_cases hk : i = k
          · rw [hk]
            exact h
          · exact h2 i (by omega)
    · rw [h3]
      exact .inr ⟨b, by omega, h2, rfl⟩
theorem nodup_snoc {L : List (Int × Int)} {s k : Nat} (h : ((List.range k).map (wk L s)).Nodup) (hn : ∀ i, i < k → wk L s i ≠ wk L s k) : ((List.range (k + 1)).map (wk L s)).Nodup := by
  rw [List.range_succ, List.map_append]
  refine List.nodup_append.mpr ⟨h, by simp, fun a ha b hb => ?_⟩
  obtain ⟨i, hi, rfl⟩ := List.mem_map.mp ha
  have e : b = wk L s k := by simpa using hb
  rw [e]
  exact hn i (List.mem_range.mp hi)
section
variable {P : Program} {w : World} {K : PySem.W.Frag} {mg : Str → Option Value} {base : Heap} {C : Addr}
/-! ### track_of -/
def spTrack (C : Addr) : Sp := fun vs H Q _ => ∃ (p : Addr) (L : List (Int × Int)) (DD : List (List Int)) (s : Nat), vs = [.ref p, .int (s : Int)] ∧ KindAt C H p (L.map fun p => [p]) DD ∧ Ok L ∧ s < L.length ∧ L.length ≤ 8 ∧
  ∀ (b t : Nat) (q l : Addr) (H' : Hp), Same H H' → b < t → t ≤ 8 → wk L s b = wk L s t → H' l = some (.lst ((List.range t).map fun i => V.int (wk L s i : Int))) → H' q = some (.tup [.ref l, .int (b : Int)]) → Q (.ref q) H'
theorem sc28 : FnScope ["kind", "standing", "places"] ["kind", "standing"] (defScope (top 28)) := ⟨rfl, rfl, rfl, by decide +kernel, rfl, by decide +kernel, by decide +kernel⟩
theorem cal_track_of (F : Known K mg "track_of" (top 28)) (T : Free mg) (KC : KindC K mg C) : Cal P w K mg base 1 "track_of" (spTrack C) := by
  refine cal_of F sc28 (fun _ _ _ _ _ _ us hl => match us, hl with | [_, _], _ => rfl) (fun vs H Q E h => ?_) (fun f cdv A outer s H vs Q E hr h => ?_)
  · obtain ⟨p, L, DD, s, rfl, _⟩ := h
    rfl
  · obtain ⟨p, L, DD, s, rfl, ⟨dx, fs, vl, vd, hp, h1, h2, h3, ⟨al, xl, rfl, hal, pl⟩, _⟩, ok, hs, h8, k⟩ := h
    refine ⟨_, pss_cons (ps_set (i := 2) sc28.nd rfl (Or.inl rfl) pe_dnewK)
      (pss_cons (ps_while PassesOwn.never (pt_cmp (pc_dnotin (hu_of hr) (pv 1) (pv 2)))
        (pss_cons (ps_dput (hu_of hr) (pv 2) (pv 1) (pe_callB call_lenD (by rfl) T.len PySem.boot_len (pa_cons (pv 2) pa_nil)) rfl)
        (pss_one (ps_set (i := 1) sc28.nd rfl (Or.inl rfl) (pe_ix ix_tup (pe_ix ix_tup (pe_ix ix_tup (pe_fld (pv 0) rfl) (pv 1) (fun _ _ => rfl)) pe_int (fun _ _ => rfl)) pe_int (fun _ _ => rfl))))))
      (pss_one (ps_ret (pe_tup (pa_cons (pe_callTy (call_list_dK rfl) (by rfl) T.list (by decide +kernel) (pa_cons (pv 2) pa_nil)) (pa_cons (pe_dget (hu_of hr) (pv 2) (pv 1) (fun _ _ => rfl)) pa_nil)))))), ?_⟩
    intro d nd
    let W : Nat → L2.St → Hp → Prop := fun m σ H' => ∃ k : Nat, m = 9 - k ∧ k ≤ 8 ∧ σ = [some (.ref p), some (.int (wk L s k : Int)), some (.ref d)] ∧ Same H H' ∧ H' d = some (.dK (trackK L s k)) ∧ ((List.range k).map (wk L s)).Nodup
    refine ⟨W, ⟨9, 0, rfl, by omega, rfl, same_new nd, upd_same, by simp⟩, ?_⟩
    rintro m σ H1 ⟨j, rfl, hj, rfl, s1, hd, hnd⟩
    refine ⟨_, rfl, _, rfl, d, _, rfl, DGet.k (k := Sum.inl (wk L s j : Int)) hd, _, rfl, ?_⟩
    rcases valV_track L s (wk L s j) j with ⟨e1, e2⟩ | ⟨b, e1, e2, e3⟩
    · rw [e1]
      refine iteT ?_
      refine ⟨fun σ' H' => ∃ m', m' < 9 - j ∧ W m' σ' H', fun _ _ h => h, ?_⟩
      have nd2 := nodup_snoc hnd e2
      have j8 : j + 1 ≤ 8 := by
        have z := pigeon L.length _ nd2 (fun x hx => by
          obtain ⟨i, _, rfl⟩ := List.mem_map.mp hx
          exact wk_lt ok hs i)
        rw [List.length_map, List.length_range] at z
        omega
      refine ⟨_, rfl, d, _, rfl, hd, _, rfl, _, rfl, d, _, rfl, DPut.k (k := Sum.inl (wk L s j : Int)) hd (by rw [trackK_len]; exact line_of (by omega)), ?_⟩
      obtain ⟨b, c, hb, hbb, hcc⟩ := look_at pl ok (wk_lt ok hs j)
      have ned : ∀ a o, H a = some o → a ≠ d := fun a o e => ne_of_none e nd
      have s2 : Same H (upd H1 d (.dK (putK (trackK L s j) (Sum.inl (wk L s j : Int)) (.int ((trackK L s j).length : Int))))) := same_over nd s1
      refine ⟨_, rfl, p, C, dx, fs, _, rfl, s2 _ _ hp, KC.cl, KC.nkl, h1, _, rfl, al, xl, _, _, rfl, rfl, SqT.of (s2 _ _ hal), at_of (j := wk L s j) rfl hb, b, _, _, _, rfl, rfl, SqT.of (s2 _ _ hbb), at_of (j := 0) rfl rfl,
        c, _, _, _, rfl, rfl, SqT.of (s2 _ _ hcc), at_of (j := 1) rfl rfl, ?_⟩
      refine ⟨9 - (j + 1), by omega, j + 1, rfl, j8, rfl, s2, ?_, nd2⟩
      rw [upd_same, putK_new _ e1, trackK_len, trackK_succ]
    · rw [e3]
      refine iteF ?_
      refine ⟨_, rfl, d, _, rfl, hd, fun l nl => ?_⟩
      have ndl : d ≠ l := ne_of_none hd nl
      refine ⟨_, rfl, _, rfl, d, _, rfl, by rw [← e3]; exact DGet.k (k := Sum.inl (wk L s j : Int)) ((upd_ne ndl).trans hd), by show 2 ≤ sizeLine; decide, fun q nq => ?_⟩
      have nlq : l ≠ q := fun z => by
        rw [← z, upd_same] at nq
        cases nq
      have nl0 : H l = none := s1.free nl
      have nq0 : H1 q = none := by
        rw [upd_ne nlq.symm] at nq
        exact nq
      refine k b j q l _ (same_over (s1.free nq0) (same_over nl0 s1)) e1 hj e2 ?_ upd_same
      rw [upd_ne nlq, upd_same]
      unfold trackK
      rw [List.map_map]
      rfl
end
end K9

/-! the shortest round, the class -/
namespace K9
open PySem PySem.Spec PyProof.Rows L2
/-! ### tuples of ints: parts, sums, == -/
theorem layAll_ints : ∀ ns : List Int, PyData.canLayAll0 (ns.map PyData.int) = true
  | [] => by simp [PyData.canLayAll0]
  | n :: r => by simp [PyData.canLayAll0, PyData.canLay0, layAll_ints r]
theorem depAll_ints : ∀ ns : List Int, PyData.depthAll (ns.map PyData.int) ≤ 1
  | [] => by simp [PyData.depthAll]
  | n :: r => by
    have := depAll_ints r
    simp only [List.map_cons, PyData.depthAll, PyData.depth]
    omega
theorem shaped_ints (ns : List Int) : SeqAt.shaped (.tuple (ns.map PyData.int)) = true := by
  have h1 := depAll_ints ns
  have h2 : PyData.depth (.tuple (ns.map PyData.int)) ≤ 64 := by simp only [PyData.depth]; omega
  show (PyData.canLay0 (.tuple (ns.map PyData.int)) && decide (PyData.depth (.tuple (ns.map PyData.int)) ≤ 64)) = true
  rw [Bool.and_eq_true]
  exact ⟨by simp only [PyData.canLay0]; exact layAll_ints ns, decide_eq_true h2⟩
theorem eqv_ints (xs ys : List Int) : PyData.eqv (.tuple (xs.map PyData.int)) (.tuple (ys.map PyData.int)) = decide (xs = ys) := by
  have e := PySem.W.Datum.eqv (PySem.W.Tup.mk xs) (PySem.W.Tup.mk ys)
  have e2 : PyData.eqv (.tuple (xs.map PyData.int)) (.tuple (ys.map PyData.int)) = decide (PySem.W.Tup.mk xs = PySem.W.Tup.mk ys) := e
  rw [e2]
  exact decide_eq_decide.mpr (by rw [PySem.W.Tup.mk.injEq])
/-- a part that isn't written -/
theorem np_of {σ : L2.St} {H : Hp} {Q : Option Int → Hp → Prop} (h : Q none H) : tNoPart σ H Q := h
section
variable {K : PySem.W.Frag} {H : Hp} {Q : VK} {u v : V} {xs ys : List Int}
theorem eq_ints (hu : IntsV H u xs) (hv : IntsV H v ys) (k : Q (.bl (decide (xs = ys))) H) : rEqD K u v H Q := by
  obtain ⟨a, rfl, ha⟩ := hu
  obtain ⟨b, rfl, hb⟩ := hv
  exact ⟨_, _, .tup (SqT.of ha) (dp_ints K H xs), .tup (SqT.of hb) (dp_ints K H ys), shaped_ints xs, shaped_ints ys, bl_of (Q := Q) (eqv_ints xs ys) k⟩
theorem ne_ints (hu : IntsV H u xs) (hv : IntsV H v ys) (k : Q (.bl (!decide (xs = ys))) H) : rNeD K u v H Q := by
  obtain ⟨a, rfl, ha⟩ := hu
  obtain ⟨b, rfl, hb⟩ := hv
  exact ⟨_, _, .tup (SqT.of ha) (dp_ints K H xs), .tup (SqT.of hb) (dp_ints K H ys), shaped_ints xs, shaped_ints ys, bl_of (Q := Q) (by rw [eqv_ints xs ys]) k⟩
theorem cat_ints (hu : IntsV H u xs) (hv : IntsV H v ys) (hl : xs.length + ys.length ≤ sizeLine) (k : ∀ z H', Same H H' → IntsV H' z (xs ++ ys) → Q z H') : rCatA K u v H Q := by
  obtain ⟨a, rfl, ha⟩ := hu
  obtain ⟨b, rfl, hb⟩ := hv
  refine ⟨a, b, _, _, rfl, rfl, SqT.of ha, SqT.of hb, by rw [List.length_map, List.length_map]; exact hl, fun e => ?_, fun _ e => ?_, fun _ _ p np => ?_⟩
  · have e2 : xs = [] := List.map_eq_nil_iff.mp e
    exact k _ H (Same.refl H) ⟨b, rfl, by rw [e2]; exact hb⟩
  · have e2 : ys = [] := List.map_eq_nil_iff.mp e
    exact k _ H (Same.refl H) ⟨a, rfl, by rw [e2, List.append_nil]; exact ha⟩
  · exact k _ _ (same_new np) ⟨p, rfl, by rw [List.map_append]; exact upd_same⟩
/-- a part, whatever its ends -/
theorem cut_ints {lo hi : Option Int} (hu : IntsV H u xs) (k : ∀ z H', Same H H' → IntsV H' z ((xs.drop (HT.sIx xs.length 0 lo)).take (HT.sIx xs.length xs.length hi - HT.sIx xs.length 0 lo)) → Q z H') : rSlA K u lo hi H Q := by
  obtain ⟨a, rfl, ha⟩ := hu
  refine ⟨a, _, rfl, SqT.of ha, fun e => ?_, fun _ p np => ?_⟩
  · rw [List.length_map] at e
    refine k _ H (Same.refl H) ⟨a, rfl, ?_⟩
    rw [e.1, e.2, List.drop_zero, Nat.sub_zero, List.take_length]
    exact ha
  · refine k _ _ (same_new np) ⟨p, rfl, ?_⟩
    rw [upd_same]
    unfold cutV
    rw [List.length_map, List.map_take, List.map_drop]
theorem cut_from {l : Nat} (hu : IntsV H u xs) (k : ∀ z H', Same H H' → IntsV H' z (xs.drop l) → Q z H') : rSlA K u (some (l : Int)) none H Q := by
  refine cut_ints hu fun z H' s h => k z H' s ?_
  rw [HT.sIx_nat, HT.sIx_none] at h
  have e : (xs.drop (min l xs.length)).take (xs.length - min l xs.length) = xs.drop l := by
    rw [List.take_of_length_le (by rw [List.length_drop]; exact Nat.le_refl _)]
    by_cases q : l ≤ xs.length
    · rw [Nat.min_eq_left q]
    · rw [Nat.min_eq_right (by omega), List.drop_eq_nil_of_le (by omega), List.drop_eq_nil_of_le (by omega)]
  rw [e] at h
  exact h
theorem cut_to {l : Nat} (hu : IntsV H u xs) (k : ∀ z H', Same H H' → IntsV H' z (xs.take l) → Q z H') : rSlA K u none (some (l : Int)) H Q := by
  refine cut_ints hu fun z H' s h => k z H' s ?_
  rw [HT.sIx_nat, HT.sIx_none, List.drop_zero, Nat.sub_zero] at h
  have e : xs.take (min l xs.length) = xs.take l := by
    by_cases q : l ≤ xs.length
    · rw [Nat.min_eq_left q]
    · rw [Nat.min_eq_right (by omega), List.take_of_length_le (by omega), List.take_of_length_le (by omega)]
  rw [e] at h
  exact h
theorem cut_both {l m : Nat} (hu : IntsV H u xs) (hl : l ≤ m) (k : ∀ z H', Same H H' → IntsV H' z ((xs.take m).drop l) → Q z H') : rSlA K u (some (l : Int)) (some (m : Int)) H Q := by
  refine cut_ints hu fun z H' s h => k z H' s ?_
  rw [HT.sIx_nat, HT.sIx_nat] at h
  have e : (xs.drop (min l xs.length)).take (min m xs.length - min l xs.length) = (xs.take m).drop l := by
    rw [List.drop_take]
    by_cases q : l ≤ xs.length
    · rw [Nat.min_eq_left q]
      by_cases q2 : m ≤ xs.length
      · rw [Nat.min_eq_left q2]
      · rw [Nat.min_eq_right (by omega), List.take_of_length_le (by rw [List.length_drop]; exact Nat.le_refl _), List.take_of_length_le (by rw [List.length_drop]; omega)]
    · rw [Nat.min_eq_right (show xs.length ≤ l by omega), List.drop_eq_nil_of_le (show xs.length ≤ xs.length by omega), List.drop_eq_nil_of_le (show xs.length ≤ l by omega), List.take_nil, List.take_nil]
  rw [e] at h
  exact h
/-- min of a list of tuples of ints -/
theorem min_ints {D : Addr} {vs : List V} {n : Nat} {g : Nat → List Int} (hD : H D = some (.lst vs)) (pr : Paired (IntsV H) vs ((List.range n).map g)) (hn : 0 < n) (k : ∀ (v : V) (i : Nat), i < n → IntsV H v (g i) → (∀ j, j < n → lexLt (g j) (g i) = false) → Q v H) : rMinT K [V.ref D] H Q := by
  refine ⟨D, vs, (List.range n).map g, rfl, SqL.of hD, Paired.mapP pr fun _ _ ⟨b, e, h⟩ => ⟨b, e, SqT.of h⟩, fun e => ?_, fun i v r hv hr hm => ?_⟩
  · have e2 := congrArg List.length e
    rw [List.length_map, List.length_range] at e2
    simp at e2
    omega
  · obtain ⟨r', hr', hi⟩ := paired_get pr hv
    rw [hr] at hr'
    cases hr'
    rw [List.getElem?_map] at hr
    have hin : i < n := by
      by_cases q : i < n
      · exact q
      · rw [List.getElem?_eq_none (by rw [List.length_range]; omega)] at hr
        cases hr
    rw [List.getElem?_range hin] at hr
    have er : g i = r := Option.some.inj hr
    subst er
    exact k v i hin hi fun j hj => hm (g j) (List.mem_map.mpr ⟨j, List.mem_range.mpr hj, rfl⟩)
end
section
variable {P : Program} {w : World} {K : PySem.W.Frag} {mg : Str → Option Value} {base : Heap} {C : Addr}
/-! ### shortest_round -/
def spShort : Sp := fun vs H Q _ => ∃ (v : V) (row : List Int), vs = [v] ∧ IntsV H v row ∧ 0 < row.length ∧ row.length ≤ 1000 ∧ ∀ (r : List Int) (u : V) (H' : Hp), Same H H' → IntsV H' u r → Short row r → Q u H'
theorem sc29 : FnScope ["row", "many", "length", "at"] ["row"] (defScope (top 29)) := ⟨rfl, rfl, rfl, by decide +kernel, rfl, by decide +kernel, by decide +kernel⟩
/-- the turn's test -/
def TurnsTo (row : List Int) (l : Nat) : Prop := row.length % l = 0 ∧ row.drop l ++ row.take l = row
theorem cal_shortest_round (F : Known K mg "shortest_round" (top 29)) (T : Free mg) : Cal P w K mg base 1 "shortest_round" spShort := by
  refine cal_of F sc29 (fun _ _ _ _ _ _ us hl => match us, hl with | [_], _ => rfl) (fun vs H Q E h => ?_) (fun f cdv A outer s H vs Q E hr h => ?_)
  · obtain ⟨v, row, rfl, _⟩ := h
    rfl
  · obtain ⟨v, row, rfl, hv, hl0, hl1, k⟩ := h
    refine ⟨_, pss_cons (ps_set (i := 1) sc29.nd rfl (Or.inl rfl) (pe_callB call_len_seq (by rfl) T.len PySem.boot_len (pa_cons (pv 0) pa_nil)))
      (pss_cons (ps_for PassesOwn.never rfl (pi_range2 (by rfl) T.range (pa_cons pe_int (pa_cons (pe_op op_add (pv 1) pe_int) pa_nil))) (pg_name (i := 2) sc29.nd rfl (Or.inr rfl))
        (pss_one (ps_if (PW.pt (pw_and (pt_cmpR op_eq (pe_op op_mod (pv 1) (pv 2)) pe_int (nomark _)) (pw_and1 (pt_cmpR (op_eqD hr.units) (pe_op op_catA (pe_slice sl_tupA (pv 0) (po_some (pv 2)) po_none) (pe_slice sl_tupA (pv 0) po_none (po_some (pv 2)))) (pv 0) (nomark _)))))
          (pss_one (ps_ret (pe_callB (cr_minT rfl hr.units) (by rfl) T.min (by decide +kernel) (pa_cons (pe_lc (own := [("at", 3)]) (g := gName 3) (tt := tYes) rfl sc29.nd
            (pi_range1 (by rfl) T.range (pa_cons (pv 2) pa_nil)) (blkOk_by (own := [("at", 3)]) (N := ["row", "many", "length", "at"]) (sc := defScope (top 29)) (by decide +kernel))
            (fun _ _ _ _ _ => pg_name (i := 3) sc29.nd rfl (Or.inl rfl)) (fun _ _ _ _ _ => pts_nil)
            (fun _ _ _ _ _ => pe_op (r := rCatA K) op_catA (pe_slice (r := rSlA K) sl_tupA (pv 0) (po_some (pv 3)) (po_some (pv 2))) (pe_slice (r := rSlA K) sl_tupA (pv 0) po_none (po_some (pv 3))))) pa_nil)))) pss_nil)))
      (pss_one (ps_ret (pv 0)))), ?_⟩
    obtain ⟨a, rfl, ha⟩ := id hv
    refine ⟨_, rfl, a, _, rfl, .inr (SqT.of ha), ?_⟩
    rw [List.length_map]
    refine ⟨_, rfl, _, _, rfl, rfl, 1, _, rfl, ⟨by decide, by decide, by omega, by omega⟩, ?_⟩
    refine for_range (lo := 1) (n := (((row.length : Nat) : Int) + 1 - 1).toNat) (fun i σ H' => ∃ v2 : Option V, σ = [some (.ref a), some (.int (row.length : Int)), v2, none] ∧ Same H H' ∧ ∀ q, 0 < q → q ≤ i → ¬ TurnsTo row q)
      ⟨none, rfl, Same.refl H, fun q q0 q1 => by omega⟩ ?_ ?_
    · rintro i σ H1 hi ⟨v2, rfl, s1, hno⟩
      have hl : i + 1 ≤ row.length := by omega
      have e1 : (1 : Int) + (i : Int) = ((i + 1 : Nat) : Int) := by omega
      rw [e1]
      have hv1 := keeps_ints _ _ _ _ s1 hv
      refine ⟨_, rfl, _, rfl, _, _, rfl, rfl, by omega, rfl, _, rfl, ?_⟩
      have em : decide (V.int ((row.length : Int) % ((i + 1 : Nat) : Int)) = V.int 0) = decide (row.length % (i + 1) = 0) := by
        rw [dec_int, Bool.eq_iff_iff, beq_iff_eq, decide_eq_true_eq]
        omega
      rw [em]
      by_cases c1 : row.length % (i + 1) = 0
      · rw [decide_eq_true c1]
        refine iteT ?_
        refine ⟨_, rfl, _, rfl, _, rfl, np_of (cut_from (l := i + 1) hv1 fun z2 H2 s2 hz2 => ?_)⟩
        refine ⟨_, rfl, _, rfl, _, rfl, cut_to (l := i + 1) (keeps_ints _ _ _ _ s2 hv1) fun z3 H3 s3 hz3 => ?_⟩
        refine cat_ints (keeps_ints _ _ _ _ s3 hz2) hz3 (by rw [List.length_drop, List.length_take, sizeLine_eq]; omega) fun z4 H4 s4 hz4 => ?_
        have s14 := ((s1.trans s2).trans s3).trans s4
        refine ⟨_, rfl, eq_ints hz4 (keeps_ints _ _ _ _ s14 hv) ⟨_, rfl, ?_⟩⟩
        by_cases c2 : row.drop (i + 1) ++ row.take (i + 1) = row
        · rw [decide_eq_true c2]
          refine iteT ?_
          have hv4 := keeps_ints _ _ _ _ s14 hv
          refine ⟨_, rfl, _, rfl, by omega, by omega, fun D nD => ?_⟩
          refine lc_range (lo := 0) (n := ((i + 1 : Nat) : Int).toNat) (fun j H' => LcInv IntsV (fun j => (row.take (i + 1)).drop j ++ row.take j) H4 D j H') (lcinv_0 nD) (fun j H' hj p => ?_) (fun H5 ⟨s5, vs5, hD5, pr5⟩ => ?_)
          · rw [Int.toNat_natCast] at hj
            have e0 : (0 : Int) + (j : Int) = (j : Int) := by omega
            rw [e0]
            have hv5 := keeps_ints _ _ _ _ p.1 hv4
            refine ⟨rfl, yes_of ?_⟩
            refine ⟨_, rfl, _, rfl, _, rfl, _, rfl, _, rfl, cut_both (l := j) (m := i + 1) hv5 (by omega) fun y1 G1 t1 hy1 => ?_⟩
            refine ⟨_, rfl, _, rfl, _, rfl, cut_to (l := j) (keeps_ints _ _ _ _ t1 hv5) fun y2 G2 t2 hy2 => ?_⟩
            refine cat_ints (keeps_ints _ _ _ _ t2 hy1) hy2 (by rw [List.length_drop, List.length_take, List.length_take, sizeLine_eq]; omega) fun y3 G3 t3 hy3 => ?_
            exact lcinv_step kt_ints nD (by omega) p ((t1.trans t2).trans t3) hy3
          · rw [Int.toNat_natCast] at pr5
            refine min_ints hD5 pr5 (by omega) fun v5 j hj hv5 hmin => ?_
            exact k _ v5 H5 (s14.trans s5) hv5 ⟨i + 1, by omega, hl, c1, c2, fun q q0 ql h1 h2 => hno q q0 (by omega) ⟨h1, h2⟩, ⟨j, hj, rfl⟩, hmin⟩
        · rw [decide_eq_false c2]
          refine iteF ⟨_, rfl, s14, fun q q0 q1 => ?_⟩
          by_cases e : q = i + 1
          · rw [e]
            exact fun z => c2 z.2
          · exact hno q q0 (by omega)
      · rw [decide_eq_false c1]
        refine iteF (iteF ⟨_, rfl, s1, fun q q0 q1 => ?_⟩)
        by_cases e : q = i + 1
        · rw [e]
          exact fun z => c1 z.1
        · exact hno q q0 (by omega)
    · rintro σ H1 ⟨v2, rfl, s1, hno⟩
      exact absurd ⟨Nat.mod_self _, by rw [List.drop_length, List.take_length, List.nil_append]⟩ (hno row.length hl0 (by omega))
end
end K9

/-! the class -/
namespace K9
open PySem PySem.Spec PyProof.Rows L2
/-- a field, in a comprehension's block -/
theorem pe_fldK {X : Cx} {K : PySem.W.Frag} {e : Expr} {f : Str} {pos : Pos} {ta : TE} (hK : X.K = K) (he : PE X e ta) (hb : attributeBase e f X.env (eval e X.env) = eval e X.env) : PE X (.Attribute e f pos) (tFld K ta f) := by
  subst hK
  exact pe_fld he hb
/-- the first outcomes -/
def heads (LL : List (List (Int × Int))) : List (Int × Int) := LL.map fun r => r.headD (0, 0)
theorem heads_of {LL : List (List (Int × Int))} (h : ∀ r ∈ LL, r.length = 1) : LL = (heads LL).map fun p => [p] := by
  unfold heads
  rw [List.map_map]
  conv => lhs; rw [← List.map_id LL]
  apply List.map_congr_left
  intro r hr
  have e := h r hr
  match r, e with
  | [p], _ => rfl
theorem heads_len (LL : List (List (Int × Int))) : (heads LL).length = LL.length := by simp [heads]
theorem sure_rows {LL : List (List (Int × Int))} {DD : List (List Int)} (h : isSure LL DD = true) : ∀ r ∈ LL, r.length = 1 := by
  unfold isSure at h
  rw [Bool.and_eq_true] at h
  intro r hr
  exact of_decide_eq_true (List.all_eq_true.mp h.1 r hr)
section
variable {P : Program} {w : World} {K : PySem.W.Frag} {mg : Str → Option Value} {base : Heap} {C : Addr}
/-! ### class_within -/
def spWithin (C : Addr) : Sp := fun vs H Q _ => ∃ (p : Addr) (L : List (Int × Int)) (DD : List (List Int)) (s : Nat), vs = [.ref p, .int (s : Int)] ∧ KindAt C H p (L.map fun p => [p]) DD ∧ Ok L ∧ s < L.length ∧ L.length ≤ 8 ∧
  ∀ (r : List Int) (u : V) (H' : Hp), Same H H' → IntsV H' u r → Prog L s r → Q u H'
theorem sc30 : FnScope ["kind", "standing", "track", "begin", "here"] ["kind", "standing"] (defScope (top 30)) := ⟨rfl, rfl, rfl, by decide +kernel, rfl, by decide +kernel, by decide +kernel⟩
theorem cal_class_within (F : Known K mg "class_within" (top 30)) (T : Free mg) (KC : KindC K mg C) (ct : Cal P w K mg base 1 "track_of" (spTrack C)) (cs : Cal P w K mg base 1 "shortest_round" spShort) : Cal P w K mg base 2 "class_within" (spWithin C) := by
  refine cal_of F sc30 (fun _ _ _ _ _ _ us hl => match us, hl with | [_, _], _ => rfl) (fun vs H Q E h => ?_) (fun f cdv A outer s H vs Q E hr h => ?_)
  · obtain ⟨p, L, DD, s, rfl, _⟩ := h
    rfl
  · obtain ⟨p, L, DD, s, rfl, ka, ok, hs, h8, k⟩ := h
    obtain ⟨dx, fs, vl, vd, hp, h1, h2, h3, ⟨al, xl, rfl, hal, pl⟩, _⟩ := id ka
    refine ⟨_, pss_cons (ps_asg (C8.pe_c ct hr (by decide) (by rfl) (pa_cons (pv 0) (pa_cons (pv 1) pa_nil))) (pg_tup rfl (pgs_cons (pg_name (i := 2) sc30.nd rfl (Or.inl rfl)) (pgs_cons (pg_name (i := 3) sc30.nd rfl (Or.inl rfl)) pgs_nil))))
      (pss_one (ps_ret (C8.pe_c cs hr (by decide) (by rfl) (pa_cons (pe_callTy call_tuple_of (by rfl) T.tuple (by decide +kernel) (pa_cons (pe_lc (own := [("here", 4)]) (g := gName 4) (tt := tYes) rfl sc30.nd
          (pi_list (pe_slice sl_list (pv 2) (po_some (pv 3)) po_none)) (blkOk_by (own := [("here", 4)]) (N := ["kind", "standing", "track", "begin", "here"]) (sc := defScope (top 30)) (by decide +kernel))
          (fun _ _ _ _ _ => pg_name (i := 4) sc30.nd rfl (Or.inl rfl)) (fun _ _ _ _ _ => pts_nil)
          (fun _ _ _ _ _ => pe_ix (r := rIxT K) ix_tup (pe_ix (r := rIxT K) ix_tup (pe_ix (r := rIxT K) ix_tup (pe_fldK (K := K) rfl (pv 0) rfl) (pv 4) (fun _ _ => rfl)) pe_int (fun _ _ => rfl)) pe_int (fun _ _ => rfl))) pa_nil)) pa_nil)))), ?_⟩
    refine ⟨_, rfl, _, rfl, p, L, DD, s, rfl, ka, ok, hs, h8, fun b t q l H1 s1 hb ht hw hl hq => ?_⟩
    refine ⟨q, _, rfl, SqT.of hq, rfl, _, _, rfl, _, _, rfl, rfl, ?_⟩
    let xs : List V := (List.range (t - b)).map fun i => V.int (wk L s (b + i) : Int)
    have exs : cutV ((List.range t).map fun i => V.int (wk L s i : Int)) (some (b : Int)) none = xs := by
      unfold cutV
      rw [HT.sIx_nat, HT.sIx_none, List.length_map, List.length_range, Nat.min_eq_left (Nat.le_of_lt hb)]
      apply List.ext_getElem?
      intro j
      rw [List.getElem?_take, List.getElem?_drop, List.getElem?_map, List.getElem?_map]
      by_cases hj : j < t - b
      · rw [if_pos hj, List.getElem?_range (by omega), List.getElem?_range hj]
        rfl
      · rw [if_neg hj, List.getElem?_eq_none (by rw [List.length_range]; omega)]
        rfl
    have lxs : xs.length = t - b := by simp [xs]
    refine ⟨_, rfl, _, rfl, _, rfl, l, _, rfl, SqL.of hl, fun m nm => ?_⟩
    rw [exs]
    have s2 := s1.trans (same_new (o := .lst xs) nm)
    refine ⟨m, rfl, ⟨_, SqL.of upd_same⟩, fun D nD => ?_⟩
    refine lc_list (K := K) (a := m) (xs := xs) (fun j H' => LcInv IsV (fun j => V.int (row L s (b + j))) (upd H1 m (.lst xs)) D j H') (lcinv_0 nD) (fun j H' _ p => SqL.of (p.1 _ _ upd_same)) (fun j x H' hx p' => ?_) (fun H2 ⟨s3, vs3, hD, pr⟩ => ?_)
    · have hj : j < t - b := by
        have z := (List.getElem?_eq_some_iff.mp hx).1
        omega
      have ex : x = V.int (wk L s (b + j) : Int) := by
        rw [List.getElem?_map, List.getElem?_range hj] at hx
        exact (Option.some.inj hx).symm
      subst ex
      have s4 := s2.trans p'.1
      obtain ⟨c, e, hc, hcc, hee⟩ := look_at pl ok (wk_lt ok hs (b + j))
      refine ⟨rfl, yes_of ?_⟩
      refine ⟨_, rfl, p, C, dx, fs, _, rfl, s4 _ _ hp, KC.cl, KC.nkl, h1, _, rfl, al, xl, _, _, rfl, rfl, SqT.of (s4 _ _ hal), at_of (j := wk L s (b + j)) rfl hc, c, _, _, _, rfl, rfl, SqT.of (s4 _ _ hcc), at_of (j := 0) rfl rfl,
        e, _, _, _, rfl, rfl, SqT.of (s4 _ _ hee), at_of (j := 0) rfl rfl, ?_⟩
      exact lcinv_step kt_is nD (by omega) p' (Same.refl H') rfl
    · rw [paired_is pr, lxs] at hD
      have hD2 : H2 D = some (.lst ((cut (row L s) b (t - b)).map V.int)) := by
        rw [hD]
        unfold cut
        rw [List.map_map]
        rfl
      refine ⟨D, _, rfl, .inl ⟨SqL.of hD2, fun u nu => ?_⟩⟩
      have s5 := s2.trans s3
      refine ⟨_, cut (row L s) b (t - b), rfl, ⟨u, rfl, upd_same⟩, by rw [cut_len]; omega, by rw [cut_len]; omega, fun r z H3 s6 hz sh => ?_⟩
      exact k r z H3 ((same_over (s5.free nu) s5).trans s6) hz ⟨b, t, hb, ht, hw, sh⟩
/-! ### class_of -/
def spClassOf (C CN : Addr) : Sp := fun vs H Q E => ∃ (p : Addr) (LL : List (List (Int × Int))) (DD : List (List Int)) (s : Nat), vs = [.ref p, .int (s : Int)] ∧ KindAt C H p LL DD ∧ s < LL.length ∧ LL.length ≤ 8 ∧ DD.length ≤ 1000 ∧ (isSure LL DD = true → Ok (heads LL)) ∧
  (isSure LL DD = true → ∀ (r : List Int) (u : V) (H' : Hp), Same H H' → IntsV H' u r → Prog (heads LL) s r → Q u H') ∧ (isSure LL DD = false → ∀ H', Same H H' → E (.ref CN) none H')
theorem sc31 : FnScope ["kind", "standing"] ["kind", "standing"] (defScope (top 31)) := ⟨rfl, rfl, rfl, by decide +kernel, rfl, by decide +kernel, by decide +kernel⟩
theorem cal_class_of {CN : Addr} (F : Known K mg "class_of" (top 31)) (ct : Cal P w K mg base 3 "check_standing" (spCheckStanding C)) (cs : CalX P w K mg base 2 "check_sure" (spCheckSure C CN)) (cw : Cal P w K mg base 2 "class_within" (spWithin C)) :
    CalX P w K mg base 4 "class_of" (spClassOf C CN) := by
  refine calX_of F sc31 (fun _ _ _ _ _ _ us hl => match us, hl with | [_, _], _ => rfl) (fun vs H Q E h => ?_) (fun f cdv A outer s H vs Q E hr h => ?_)
  · obtain ⟨p, LL, DD, s, rfl, _⟩ := h
    rfl
  · obtain ⟨p, LL, DD, s, rfl, ka, hs, h8, hd, ok, k1, k2⟩ := h
    refine ⟨_, pss_cons (ps_expr (C8.pe_c ct hr (by decide) (by rfl) (pa_cons (pv 0) (pa_cons (pv 1) pa_nil))))
      (pss_cons (ps_expr (pe_cX cs hr (by decide) (by rfl) (passes_call (takes_of rfl rfl rfl rfl) (fun _ _ _ _ h => h)) (pa_cons (pv 0) pa_nil)))
      (pss_one (ps_ret (C8.pe_c cw hr (by decide) (by rfl) (pa_cons (pv 0) (pa_cons (pv 1) pa_nil)))))), ?_⟩
    refine ⟨_, rfl, _, rfl, p, LL, DD, _, rfl, ka, by omega, by omega, ?_⟩
    refine ⟨_, rfl, p, LL, DD, rfl, ka, by omega, hd, fun e H1 s1 => ?_, fun e H1 s1 => k2 e H1 s1⟩
    have eh := heads_of (sure_rows e)
    refine ⟨_, rfl, _, rfl, p, heads LL, DD, s, rfl, by rw [← eh]; exact KindAt.keep s1 ka, ok e, by rw [heads_len]; exact hs, by rw [heads_len]; exact h8, fun r u H2 s2 hu pr => k1 e r u H2 (s1.trans s2) hu pr⟩
end
end K9

/-! the law's draws -/
namespace K9
open PySem PySem.Spec PyProof.Rows L2
/-- a pool stands at p, its lists at none of S -/
def PoolAt (H : Hp) (p : Addr) (S : Addr → Prop) : Prop := ∃ (g s : Addr) (gs ss : List Int) (z n : Int), H p = some (.lst [.ref g, .ref s, .int z, .int n]) ∧ H g = some (.lst (gs.map V.int)) ∧ H s = some (.lst (ss.map V.int)) ∧ ¬ S g ∧ ¬ S s
/-- all but p stands -/
def Sam (p : Addr) (H H' : Hp) : Prop := ∀ b o, H b = some o → b ≠ p → H' b = some o
theorem Sam.refl (p : Addr) (H : Hp) : Sam p H H := fun _ _ e _ => e
theorem Sam.trans {p : Addr} {H H1 H2 : Hp} (a : Sam p H H1) (b : Sam p H1 H2) : Sam p H H2 := fun c o e n => b c o (a c o e n) n
theorem Sam.of {p : Addr} {H H' : Hp} (s : Same H H') : Sam p H H' := fun b o e _ => s b o e
theorem Sam.over {p : Addr} {H H' : Hp} {o : HO} (s : Sam p H H') : Sam p H (upd H' p o) := fun b u e n => by
  rw [upd_ne n]
  exact s b u e n
/-- what stood ahead of the pool stands -/
theorem Sam.same {p : Addr} {H0 H H' : Hp} (s0 : Same H0 H) (p0 : H0 p = none) (s : Sam p H H') : Same H0 H' := fun b o e => s b o (s0 b o e) (ne_of_none e p0)
theorem Sam.tups {p : Addr} {H H' : Hp} {xs : List V} (h : H p = some (.lst xs)) (s : Sam p H H') : Tups H H' := fun b ys e => s b _ e (ne_of e h (by intro z; cases z))
theorem PoolAt.tups {p : Addr} {S : Addr → Prop} {H H' : Hp} (h : PoolAt H p S) (s : Sam p H H') : Tups H H' := by
  obtain ⟨_, _, _, _, _, _, h, _⟩ := h
  exact s.tups h
theorem PoolAt.keep {p : Addr} {S : Addr → Prop} {H H' : Hp} (h : PoolAt H p S) (s : Same H H') : PoolAt H' p S := by
  obtain ⟨g, t, gs, ss, z, n, h1, h2, h3, h4, h5⟩ := h
  exact ⟨g, t, gs, ss, z, n, s _ _ h1, s _ _ h2, s _ _ h3, h4, h5⟩
theorem PoolAt.there {p : Addr} {S : Addr → Prop} {H : Hp} (h : PoolAt H p S) : H p ≠ none := by
  obtain ⟨g, t, gs, ss, z, n, h1, _⟩ := h
  rw [h1]
  simp
theorem PoolAt.ne_new {p a : Addr} {S : Addr → Prop} {H : Hp} (h : PoolAt H p S) (ha : H a = none) : a ≠ p := fun e => h.there (by rw [← e]; exact ha)
theorem PoolAt.mono {p : Addr} {S T : Addr → Prop} {H : Hp} (h : PoolAt H p S) (st : ∀ a, T a → S a) : PoolAt H p T := by
  obtain ⟨g, t, gs, ss, z, n, h1, h2, h3, h4, h5⟩ := h
  exact ⟨g, t, gs, ss, z, n, h1, h2, h3, fun e => h4 (st _ e), fun e => h5 (st _ e)⟩
/-- a new object, which is none of the pool's -/
theorem PoolAt.grow {p a : Addr} {S : Addr → Prop} {H : Hp} {o : HO} (h : PoolAt H p S) (ha : H a = none) : PoolAt (upd H a o) p (fun b => S b ∨ b = a) := by
  obtain ⟨g, t, gs, ss, z, n, h1, h2, h3, h4, h5⟩ := h
  have n1 := ne_of_none h1 ha
  have n2 := ne_of_none h2 ha
  have n3 := ne_of_none h3 ha
  exact ⟨g, t, gs, ss, z, n, by rw [upd_ne n1]; exact h1, by rw [upd_ne n2]; exact h2, by rw [upd_ne n3]; exact h3, fun e => e.elim h4 n2, fun e => e.elim h5 n3⟩
/-- one of S is written -/
theorem PoolAt.write {p a : Addr} {S : Addr → Prop} {H : Hp} {o : HO} (h : PoolAt H p S) (ha : S a) (np : a ≠ p) : PoolAt (upd H a o) p S := by
  obtain ⟨g, t, gs, ss, z, n, h1, h2, h3, h4, h5⟩ := h
  have n2 : g ≠ a := fun e => h4 (by rw [e]; exact ha)
  have n3 : t ≠ a := fun e => h5 (by rw [e]; exact ha)
  exact ⟨g, t, gs, ss, z, n, by rw [upd_ne np.symm]; exact h1, by rw [upd_ne n2]; exact h2, by rw [upd_ne n3]; exact h3, h4, h5⟩
/-- what is no list is written -/
theorem PoolAt.other {p a : Addr} {S : Addr → Prop} {H : Hp} {o u : HO} (h : PoolAt H p S) (ha : H a = some u) (nl : ∀ xs, u ≠ .lst xs) : PoolAt (upd H a o) p S := by
  obtain ⟨g, t, gs, ss, z, n, h1, h2, h3, h4, h5⟩ := h
  have nn : ∀ b xs, H b = some (.lst xs) → b ≠ a := fun b xs e q => by
    rw [q, ha] at e
    exact nl xs (Option.some.inj e)
  exact ⟨g, t, gs, ss, z, n, by rw [upd_ne (nn _ _ h1)]; exact h1, by rw [upd_ne (nn _ _ h2)]; exact h2, by rw [upd_ne (nn _ _ h3)]; exact h3, h4, h5⟩
/-- an int list is no pool -/
theorem ints_ne {H : Hp} {p g a b : Addr} {z n : Int} {gs : List Int} (hp : H p = some (.lst [.ref a, .ref b, .int z, .int n])) (hg : H g = some (.lst (gs.map V.int))) : g ≠ p := fun e => by
  rw [e, hp] at hg
  have q := Option.some.inj hg
  injection q with q
  cases gs with
  | nil => simp at q
  | cons x r => simp at q
theorem ints_mem {ns : List Int} {i : Nat} {x : V} (h : (ns.map V.int)[i]? = some x) : ∃ n, ns[i]? = some n ∧ x = V.int n := by
  rw [List.getElem?_map] at h
  cases e : ns[i]? with
  | none => rw [e] at h; cases h
  | some n =>
    rw [e] at h
    exact ⟨n, rfl, (Option.some.inj h).symm⟩
/-- a part of an int list -/
theorem cutV_ints (ns : List Int) (lo hi : Option Int) : ∃ ms : List Int, cutV (ns.map V.int) lo hi = ms.map V.int ∧ ms.length ≤ ns.length := by
  refine ⟨(ns.drop (HT.sIx (ns.map V.int).length 0 lo)).take (HT.sIx (ns.map V.int).length (ns.map V.int).length hi - HT.sIx (ns.map V.int).length 0 lo), ?_, ?_⟩
  · unfold cutV
    rw [List.map_take, List.map_drop]
  · rw [List.length_take, List.length_drop]
    omega
section
variable {P : Program} {w : World} {K : PySem.W.Frag} {mg : Str → Option Value} {base : Heap}
/-! ### _law_pool -/
def spPool (K : PySem.W.Frag) : Sp := fun vs H Q _ => ∃ (a : Addr) (ns : List Int), vs = [.ref a] ∧ SqL K H a (ns.map V.int) ∧ ns.length ≤ 63 ∧ ∀ (p : Addr) (H' : Hp), Same H H' → H p = none → PoolAt H' p (fun _ => False) → Q (.ref p) H'
theorem sc33 : FnScope ["_law_script", "_law_great", "_law_small", "_law_cell"] ["_law_script"] (defScope (top 33)) := ⟨rfl, rfl, rfl, by decide +kernel, rfl, by decide +kernel, by decide +kernel⟩
/-- behind i turns: a list of at most i ints -/
def IntsInv (H : Hp) (D : Addr) (i : Nat) (H' : Hp) : Prop := Same H H' ∧ ∃ ns : List Int, H' D = some (.lst (ns.map V.int)) ∧ ns.length ≤ i
theorem ints_0 {H : Hp} {D : Addr} (nD : H D = none) : IntsInv H D 0 (upd H D (.lst [])) := ⟨same_new nD, [], upd_same, Nat.le_refl _⟩
theorem ints_step {H H' : Hp} {D : Addr} {i : Nat} {n : Int} (nD : H D = none) (hi : i < 1000) (p : IntsInv H D i H') : ∃ acc, H' D = some (.lst acc) ∧ acc.length < sizeLine ∧ IntsInv H D (i + 1) (upd H' D (.lst (acc ++ [V.int n]))) := by
  obtain ⟨s, ns, h, hl⟩ := p
  refine ⟨_, h, by rw [List.length_map]; exact line_of (by omega), same_over nD s, ns ++ [n], ?_, ?_⟩
  · rw [upd_same, List.map_append]
    rfl
  · rw [List.length_append, List.length_singleton]
    omega
theorem ints_stay {H H' : Hp} {D : Addr} {i : Nat} (p : IntsInv H D i H') : IntsInv H D (i + 1) H' := by
  obtain ⟨s, ns, h, hl⟩ := p
  exact ⟨s, ns, h, by omega⟩
theorem cal_law_pool (F : Known K mg "_law_pool" (top 33)) (T : Free mg) : Cal P w K mg base 1 "_law_pool" (spPool K) := by
  refine cal_of F sc33 (fun _ _ _ _ _ _ us hl => match us, hl with | [_], _ => rfl) (fun vs H Q E h => ?_) (fun f cdv A outer s H vs Q E hr h => ?_)
  · obtain ⟨a, ns, rfl, _⟩ := h
    rfl
  · obtain ⟨a, ns, rfl, hS, hl, k⟩ := h
    obtain ⟨ms, ems, hms⟩ := cutV_ints ns none (some 63)
    refine ⟨_, pss_cons (ps_setLc (i := 1) (own := [("_law_cell", 3)]) (g := gName 3) rfl sc33.nd rfl rfl (sw_true rfl rfl rfl (by decide +kernel)) (pi_list (pe_slice sl_list (pv 0) po_none (po_some pe_int)))
          (blkOk_by (own := [("_law_cell", 3)]) (N := ["_law_script", "_law_great", "_law_small", "_law_cell"]) (sc := defScope (top 33)) (by decide +kernel))
          (fun _ _ _ _ _ => pg_name (i := 3) sc33.nd rfl (Or.inl rfl)) (fun _ _ _ _ _ => pts_one (pt_cmpR op_ge (pe_callB call_abs (by rfl) T.abs (by decide +kernel) (pa_cons (pv 3) pa_nil)) (pe_op op_pow pe_int pe_int) (nomark _)))
          (fun _ _ _ _ _ => pe_callB call_abs (by rfl) T.abs (by decide +kernel) (pa_cons (pv 3) pa_nil)))
      (pss_cons (ps_setLc (i := 2) (own := [("_law_cell", 3)]) (g := gName 3) rfl sc33.nd rfl rfl (sw_true rfl rfl rfl (by decide +kernel)) (pi_list (pe_slice sl_list (pv 0) po_none (po_some pe_int)))
          (blkOk_by (own := [("_law_cell", 3)]) (N := ["_law_script", "_law_great", "_law_small", "_law_cell"]) (sc := defScope (top 33)) (by decide +kernel))
          (fun _ _ _ _ _ => pg_name (i := 3) sc33.nd rfl (Or.inl rfl)) (fun _ _ _ _ _ => pts_one (pt_cmpR op_lt (pe_callB call_abs (by rfl) T.abs (by decide +kernel) (pa_cons (pv 3) pa_nil)) (pe_op op_pow pe_int pe_int) (nomark _)))
          (fun _ _ _ _ _ => pe_op op_mod (pe_callTy call_int1 (by rfl) T.int (by decide +kernel) (pa_cons (pv 3) pa_nil)) pe_int))
      (pss_one (ps_ret (pe_lst (pa_cons (pv 1) (pa_cons (pv 2) (pa_cons pe_int (pa_cons pe_int pa_nil)))))))), ?_⟩
    refine ⟨_, rfl, _, rfl, a, _, rfl, hS, fun m nm => ?_⟩
    rw [ems]
    refine ⟨m, rfl, ⟨_, SqL.of upd_same⟩, fun D nD => ?_⟩
    refine lc_list (K := K) (a := m) (xs := ms.map V.int) (fun i H' => IntsInv (upd H m (.lst (ms.map V.int))) D i H') (ints_0 nD) (fun i H' _ p => SqL.of (p.1 _ _ upd_same)) (fun i x H' hx p => ?_) (fun H1 ⟨s1, gs, hD, _⟩ => ?_)
    · obtain ⟨n, hn, rfl⟩ := ints_mem hx
      have hi := (List.getElem?_eq_some_iff.mp hn).1
      refine ⟨rfl, ?_⟩
      refine ⟨_, rfl, _, rfl, _, _, rfl, rfl, ⟨by decide, by decide, by decide⟩, _, _, rfl, rfl, _, rfl, ?_⟩
      refine ite2 (fun _ => ?_) (fun _ => ints_stay p)
      exact ⟨_, rfl, _, rfl, ints_step nD (by omega) p⟩
    have nmD : m ≠ D := fun e => by
      rw [← e, upd_same] at nD
      cases nD
    have nD0 : H D = none := by
      rw [upd_ne nmD.symm] at nD
      exact nD
    have s01 : Same H H1 := (same_new nm).trans s1
    refine ⟨_, rfl, _, rfl, a, _, rfl, s01.seq hS, fun m2 nm2 => ?_⟩
    rw [ems]
    refine ⟨m2, rfl, ⟨_, SqL.of upd_same⟩, fun D2 nD2 => ?_⟩
    refine lc_list (K := K) (a := m2) (xs := ms.map V.int) (fun i H' => IntsInv (upd H1 m2 (.lst (ms.map V.int))) D2 i H') (ints_0 nD2) (fun i H' _ p => SqL.of (p.1 _ _ upd_same)) (fun i x H' hx p => ?_) (fun H2 ⟨s2, ss, hD2, _⟩ => ?_)
    · obtain ⟨n, hn, rfl⟩ := ints_mem hx
      have hi := (List.getElem?_eq_some_iff.mp hn).1
      refine ⟨rfl, ?_⟩
      refine ⟨_, rfl, _, rfl, _, _, rfl, rfl, ⟨by decide, by decide, by decide⟩, _, _, rfl, rfl, _, rfl, ?_⟩
      refine ite2 (fun _ => ?_) (fun _ => ints_stay p)
      exact ⟨_, rfl, .inl ⟨_, rfl, _, _, rfl, rfl, (by show (0 : Int) < 1000003; decide), ints_step nD2 (by omega) p⟩⟩
    have s12 : Same H1 H2 := (same_new nm2).trans s2
    refine ⟨_, rfl, _, rfl, (by show 4 ≤ sizeLine; decide), fun p np => ?_⟩
    have p0 : H p = none := (s01.trans s12).free np
    refine k p _ (same_over p0 (s01.trans s12)) p0 ⟨D, D2, gs, ss, 0, 0, upd_same, ?_, ?_, fun e => e, fun e => e⟩
    · have e : H2 D = some (.lst (gs.map V.int)) := s12 _ _ hD
      rw [upd_ne (ne_of_none e np)]
      exact e
    · rw [upd_ne (ne_of_none hD2 np)]
      exact hD2
end
end K9

/-! a draw -/
namespace K9
open PySem PySem.Spec PyProof.Rows L2
section
variable {P : Program} {w : World} {K : PySem.W.Frag} {mg : Str → Option Value} {base : Heap}
/-! ### _law_draw -/
def spDraw : Sp := fun vs H Q _ => ∃ (p : Addr) (m : Int) (S : Addr → Prop), vs = [.ref p, .int m] ∧ PoolAt H p S ∧ (∀ a, S a → H a ≠ none) ∧ 1 ≤ m ∧ m ≤ 1000 ∧ ∀ (d : Int) (H' : Hp), 0 ≤ d → d < m → PoolAt H' p S → Sam p H H' → Q (.int d) H'
theorem sc34 : FnScope ["_law_pool_here", "_law_many", "_law_digit", "_law_cell", "_law_number"] ["_law_pool_here", "_law_many"] (defScope (top 34)) := ⟨rfl, rfl, rfl, by decide +kernel, rfl, by decide +kernel, by decide +kernel⟩
theorem cal_law_draw (F : Known K mg "_law_draw" (top 34)) (T : Free mg) : Cal P w K mg base 1 "_law_draw" spDraw := by
  refine cal_of F sc34 (fun _ _ _ _ _ _ us hl => match us, hl with | [_, _], _ => rfl) (fun vs H Q E h => ?_) (fun f cdv A outer s H vs Q E hr h => ?_)
  · obtain ⟨p, m, S, rfl, _⟩ := h
    rfl
  · obtain ⟨p, m, S, rfl, hP, hS, m1, m2, k⟩ := h
    refine ⟨_, C8.pss_cut (ps_if (PW.pt (pw_and (pt_cmpR op_le (pe_ix ix_list (pv 0) pe_int (fun _ _ => rfl)) pe_int (nomark _)) (pw_and1 (pt_cmpR op_gt (pe_callB call_len_seq (by rfl) T.len PySem.boot_len (pa_cons (pe_ix ix_list (pv 0) pe_int (fun _ _ => rfl)) pa_nil)) pe_int (nomark _)))))
        (pss_cons (ps_asg (pe_ix ix_list (pe_ix ix_list (pv 0) pe_int (fun _ _ => rfl)) pe_int (fun _ _ => rfl)) (pg_sub (pv 0) pe_int set_list))
        (pss_one (ps_asg (pe_slice sl_list (pe_ix ix_list (pv 0) pe_int (fun _ _ => rfl)) (po_some pe_int) po_none) (pg_sub (pv 0) pe_int set_list)))) pss_nil)
      (pss_cons (ps_if (pt_cmpR op_gt (pe_ix ix_list (pv 0) pe_int (fun _ _ => rfl)) pe_int (nomark _))
        (pss_cons (ps_set (i := 2) sc34.nd rfl (Or.inl rfl) (pe_op op_mod (pe_callTy call_int1 (by rfl) T.int (by decide +kernel) (pa_cons (pe_ix ix_list (pv 0) pe_int (fun _ _ => rfl)) pa_nil)) (pv 1)))
        (pss_cons (ps_asg (pe_op op_fdiv (pe_ix ix_list (pv 0) pe_int (fun _ _ => rfl)) (pv 1)) (pg_sub (pv 0) pe_int set_list))
        (pss_one (ps_ret (pv 2))))) pss_nil)
      (pss_cons (ps_asg (pe_op op_add (pe_ix ix_list (pv 0) pe_int (fun _ _ => rfl)) pe_int) (pg_sub (pv 0) pe_int set_list))
      (pss_cons (ps_set (i := 3) sc34.nd rfl (Or.inl rfl) pe_int)
      (C8.pss_cut (ps_if (pt_cmpR op_gt (pe_callB call_len_seq (by rfl) T.len PySem.boot_len (pa_cons (pe_ix ix_list (pv 0) pe_int (fun _ _ => rfl)) pa_nil)) pe_int (nomark _))
        (pss_one (ps_set (i := 3) sc34.nd rfl (Or.inl rfl) (pe_ix ix_list (pe_ix ix_list (pv 0) pe_int (fun _ _ => rfl)) (pe_op op_mod (pe_callTy call_int1 (by rfl) T.int (by decide +kernel) (pa_cons (pe_ix ix_list (pv 0) pe_int (fun _ _ => rfl)) pa_nil))
          (pe_callB call_len_seq (by rfl) T.len PySem.boot_len (pa_cons (pe_ix ix_list (pv 0) pe_int (fun _ _ => rfl)) pa_nil))) (fun _ _ => rfl)))) pss_nil)
      (pss_cons (ps_set (i := 4) sc34.nd rfl (Or.inl rfl) (pe_op op_mod (pe_callTy call_int1 (by rfl) T.int (by decide +kernel) (pa_cons (pe_op op_mul (pe_op op_add (pe_op op_add (pv 3) (pe_op op_mul pe_int (pe_ix ix_list (pv 0) pe_int (fun _ _ => rfl)))) pe_int) pe_int) pa_nil)) pe_int))
      (pss_cons (ps_set (i := 4) sc34.nd rfl (Or.inl rfl) (pe_op op_mod (pe_callTy call_int1 (by rfl) T.int (by decide +kernel) (pa_cons (pe_op op_mul (pv 4) (pe_op op_add (pe_op op_fdiv (pv 4) pe_int) pe_int)) pa_nil)) pe_int))
      (pss_cons (ps_set (i := 4) sc34.nd rfl (Or.inl rfl) (pe_op op_mod (pe_callTy call_int1 (by rfl) T.int (by decide +kernel) (pa_cons (pe_op op_mul (pv 4) (pe_op op_add (pe_op op_fdiv (pv 4) pe_int) pe_int)) pa_nil)) pe_int))
      (pss_one (ps_ret (pe_op op_mod (pe_callTy call_int1 (by rfl) T.int (by decide +kernel) (pa_cons (pe_op op_fdiv (pv 4) pe_int) pa_nil)) (pv 1))))))))))), ?_⟩
    -- the great number is taken, where it is used up
    refine ⟨fun σ H' => σ = [some (.ref p), some (.int m), none, none, none] ∧ PoolAt H' p S ∧ Sam p H H', ?_, ?_⟩
    · obtain ⟨g, t, gs, ss, z, n, hp, hg, ht, nSg, nSt⟩ := id hP
      have ngp := ints_ne hp hg
      have ntp := ints_ne hp ht
      refine ⟨_, rfl, p, _, _, _, rfl, rfl, SqL.of hp, at_of (j := 2) rfl rfl, _, _, rfl, rfl, _, rfl, ?_⟩
      cases e1 : decide (z ≤ 1) with
      | false => exact iteF (iteF ⟨rfl, hP, Sam.refl p H⟩)
      | true =>
        refine iteT ?_
        refine ⟨_, rfl, p, _, _, _, rfl, rfl, SqL.of hp, at_of (j := 0) rfl rfl, g, _, rfl, .inl (SqL.of hg), _, _, rfl, rfl, _, rfl, ?_⟩
        cases e2 : decide ((0 : Int) < ((gs.map V.int).length : Int)) with
        | false => exact iteF ⟨rfl, hP, Sam.refl p H⟩
        | true =>
          refine iteT ?_
          have l0 : 0 < gs.length := by
            have q := of_decide_eq_true e2
            rw [List.length_map] at q
            omega
          obtain ⟨z', hz'⟩ : ∃ z', gs[0]? = some z' := ⟨gs[0], List.getElem?_eq_getElem l0⟩
          obtain ⟨ms, ems, _⟩ := cutV_ints gs (some 1) none
          refine ⟨_, rfl, p, _, _, _, rfl, rfl, SqL.of hp, at_of (j := 0) rfl rfl, g, _, _, _, rfl, rfl, SqL.of hg, at_of (j := 0) rfl (show (gs.map V.int)[0]? = some (V.int z') by rw [List.getElem?_map, hz']; rfl), ?_⟩
          refine ⟨_, rfl, p, _, _, 2, rfl, rfl, hp, rfl, ?_⟩
          refine ⟨_, rfl, p, _, _, _, rfl, rfl, SqL.of upd_same, at_of (j := 0) rfl rfl, _, rfl, np_of ⟨g, _, rfl, SqL.of (by rw [upd_ne ngp]; exact hg), fun q nq => ?_⟩⟩
          rw [ems]
          have npq : p ≠ q := fun e => by
            rw [← e, upd_same] at nq
            cases nq
          have nq0 : H q = none := by
            rw [upd_ne npq.symm] at nq
            exact nq
          refine ⟨_, rfl, p, _, _, 0, rfl, rfl, (upd_ne npq).trans upd_same, rfl, ?_⟩
          refine ⟨rfl, ⟨q, t, ms, ss, z', n, upd_same, by rw [upd_ne npq.symm, upd_same], ?_, fun e => hS q e nq0, nSt⟩, fun b o e nb => ?_⟩
          · rw [upd_ne ntp, upd_ne (ne_of_none ht nq0), upd_ne ntp]
            exact ht
          · rw [upd_ne nb, upd_ne (ne_of_none e nq0), upd_ne nb]
            exact e
    rintro σ H1 ⟨rfl, hP1, s1⟩
    obtain ⟨g, t, gs, ss, z, n, hp, hg, ht, nSg, nSt⟩ := id hP1
    have ngp := ints_ne hp hg
    have ntp := ints_ne hp ht
    refine ⟨_, rfl, p, _, _, _, rfl, rfl, SqL.of hp, at_of (j := 2) rfl rfl, _, _, rfl, rfl, _, rfl, ?_⟩
    cases e1 : decide ((1 : Int) < z) with
    | true =>
      refine iteT ?_
      refine ⟨_, rfl, p, _, _, _, rfl, rfl, SqL.of hp, at_of (j := 2) rfl rfl, .inl ⟨_, rfl, _, rfl, _, _, rfl, rfl, (by show 0 < m; omega), ?_⟩⟩
      refine ⟨_, rfl, p, _, _, _, rfl, rfl, SqL.of hp, at_of (j := 2) rfl rfl, _, rfl, _, _, rfl, rfl, ⟨by show 0 < m; omega, by show m < 1073741824; omega⟩, ?_⟩
      refine ⟨_, rfl, p, _, _, 2, rfl, rfl, hp, rfl, ?_⟩
      refine ⟨_, rfl, k (z % m) _ (Int.emod_nonneg _ (by omega)) (Int.emod_lt_of_pos _ (by omega)) ⟨g, t, gs, ss, z / m, n, upd_same, by rw [upd_ne ngp]; exact hg, by rw [upd_ne ntp]; exact ht, nSg, nSt⟩ s1.over⟩
    | false =>
      refine iteF ?_
      refine ⟨_, rfl, p, _, _, _, rfl, rfl, SqL.of hp, at_of (j := 3) rfl rfl, _, _, rfl, rfl, _, rfl, p, _, _, 3, rfl, rfl, hp, rfl, ?_⟩
      have hP2 : PoolAt (upd H1 p (.lst [.ref g, .ref t, .int z, .int (n + 1)])) p S := ⟨g, t, gs, ss, z, n + 1, upd_same, by rw [upd_ne ngp]; exact hg, by rw [upd_ne ntp]; exact ht, nSg, nSt⟩
      have s2 : Sam p H (upd H1 p (.lst [.ref g, .ref t, .int z, .int (n + 1)])) := s1.over
      have hp2 : upd H1 p (.lst [.ref g, .ref t, .int z, .int (n + 1)]) p = some (.lst [.ref g, .ref t, .int z, .int (n + 1)]) := upd_same
      have ht2 : upd H1 p (.lst [.ref g, .ref t, .int z, .int (n + 1)]) t = some (.lst (ss.map V.int)) := by rw [upd_ne ntp]; exact ht
      refine ⟨fun σ H' => (∃ c : Int, σ = [some (.ref p), some (.int m), none, some (.int c), none]) ∧ H' = upd H1 p (.lst [.ref g, .ref t, .int z, .int (n + 1)]), ?_, ?_⟩
      · refine ⟨_, rfl, p, _, _, _, rfl, rfl, SqL.of hp2, at_of (j := 1) rfl rfl, t, _, rfl, .inl (SqL.of ht2), _, _, rfl, rfl, _, rfl, ?_⟩
        cases e2 : decide ((0 : Int) < ((ss.map V.int).length : Int)) with
        | false => exact iteF ⟨⟨0, rfl⟩, rfl⟩
        | true =>
          refine iteT ?_
          have l0 : 0 < ((ss.map V.int).length : Int) := of_decide_eq_true e2
          have b0 := Int.emod_nonneg (n + 1) (show ((ss.map V.int).length : Int) ≠ 0 by omega)
          have b1 := Int.emod_lt_of_pos (n + 1) l0
          obtain ⟨j, ej⟩ : ∃ j : Nat, (n + 1) % ((ss.map V.int).length : Int) = (j : Int) := ⟨((n + 1) % ((ss.map V.int).length : Int)).toNat, by omega⟩
          have hj : j < (ss.map V.int).length := by omega
          obtain ⟨c, hc, ec⟩ := ints_mem (show (ss.map V.int)[j]? = some ((ss.map V.int)[j]'hj) from List.getElem?_eq_getElem hj)
          refine ⟨_, rfl, p, _, _, _, rfl, rfl, SqL.of hp2, at_of (j := 1) rfl rfl, ?_⟩
          refine ⟨_, rfl, p, _, _, _, rfl, rfl, SqL.of hp2, at_of (j := 3) rfl rfl, .inl ⟨_, rfl, ?_⟩⟩
          refine ⟨_, rfl, p, _, _, _, rfl, rfl, SqL.of hp2, at_of (j := 1) rfl rfl, t, _, rfl, .inl (SqL.of ht2), _, _, rfl, rfl, l0, ?_⟩
          refine ⟨t, _, _, V.int c, rfl, rfl, SqL.of ht2, at_of (j := j) ej (by rw [List.getElem?_map, hc]; rfl), ?_⟩
          exact ⟨⟨c, rfl⟩, rfl⟩
      rintro σ H2 ⟨⟨c, rfl⟩, rfl⟩
      refine ⟨_, rfl, _, rfl, p, _, _, _, rfl, rfl, SqL.of hp2, at_of (j := 3) rfl rfl, _, _, rfl, rfl, .inl ⟨by decide, by decide⟩, _, _, rfl, rfl, _, _, rfl, rfl, _, _, rfl, rfl, .inr ⟨by decide, by decide⟩, .inl ⟨_, rfl, _, _, rfl, rfl, (by show (0 : Int) < 2147483647; decide), ?_⟩⟩
      have a0 := Int.emod_nonneg ((c + 7919 * (n + 1) + 1) * 48271) (show (2147483647 : Int) ≠ 0 by decide)
      have a1 := Int.emod_lt_of_pos ((c + 7919 * (n + 1) + 1) * 48271) (show (0 : Int) < 2147483647 by decide)
      have c1 : CMul (((c + 7919 * (n + 1) + 1) * 48271) % 2147483647) ((((c + 7919 * (n + 1) + 1) * 48271) % 2147483647) / 1009 + 69621) := .inl ⟨by omega, by omega⟩
      refine ⟨_, rfl, _, rfl, _, _, rfl, rfl, ⟨by decide, by decide⟩, _, _, rfl, rfl, _, _, rfl, rfl, c1, .inl ⟨_, rfl, _, _, rfl, rfl, (by show (0 : Int) < 2147483647; decide), ?_⟩⟩
      have b0 := Int.emod_nonneg ((((c + 7919 * (n + 1) + 1) * 48271) % 2147483647) * ((((c + 7919 * (n + 1) + 1) * 48271) % 2147483647) / 1009 + 69621)) (show (2147483647 : Int) ≠ 0 by decide)
      have b1 := Int.emod_lt_of_pos ((((c + 7919 * (n + 1) + 1) * 48271) % 2147483647) * ((((c + 7919 * (n + 1) + 1) * 48271) % 2147483647) / 1009 + 69621)) (show (0 : Int) < 2147483647 by decide)
      have c2 : CMul (((((c + 7919 * (n + 1) + 1) * 48271) % 2147483647) * ((((c + 7919 * (n + 1) + 1) * 48271) % 2147483647) / 1009 + 69621)) % 2147483647) ((((((c + 7919 * (n + 1) + 1) * 48271) % 2147483647) * ((((c + 7919 * (n + 1) + 1) * 48271) % 2147483647) / 1009 + 69621)) % 2147483647) / 2003 + 40692) := .inl ⟨by omega, by omega⟩
      refine ⟨_, rfl, _, rfl, _, _, rfl, rfl, ⟨by decide, by decide⟩, _, _, rfl, rfl, _, _, rfl, rfl, c2, .inl ⟨_, rfl, _, _, rfl, rfl, (by show (0 : Int) < 2147483399; decide), ?_⟩⟩
      refine ⟨_, rfl, _, _, rfl, rfl, ⟨by decide, by decide⟩, .inl ⟨_, rfl, _, rfl, _, _, rfl, rfl, (by show 0 < m; omega), ?_⟩⟩
      exact k _ _ (Int.emod_nonneg _ (by omega)) (Int.emod_lt_of_pos _ (by omega)) hP2 s2
/-! ### _law_pick -/
def spPick : Sp := fun vs H Q _ => ∃ (p l : Addr) (ns : List Int) (S : Addr → Prop), vs = [.ref p, .ref l] ∧ PoolAt H p S ∧ (∀ a, S a → H a ≠ none) ∧ H l = some (.lst (ns.map V.int)) ∧ 0 < ns.length ∧ ns.length ≤ 1000 ∧ ∀ (d : Int) (H' : Hp), d ∈ ns → PoolAt H' p S → Sam p H H' → Q (.int d) H'
theorem sc35 : FnScope ["_law_pool_here", "_law_things"] ["_law_pool_here", "_law_things"] (defScope (top 35)) := ⟨rfl, rfl, rfl, by decide +kernel, rfl, by decide +kernel, by decide +kernel⟩
theorem cal_law_pick (F : Known K mg "_law_pick" (top 35)) (T : Free mg) (cd : Cal P w K mg base 1 "_law_draw" spDraw) : Cal P w K mg base 2 "_law_pick" spPick := by
  refine cal_of F sc35 (fun _ _ _ _ _ _ us hl => match us, hl with | [_, _], _ => rfl) (fun vs H Q E h => ?_) (fun f cdv A outer s H vs Q E hr h => ?_)
  · obtain ⟨p, l, ns, S, rfl, _⟩ := h
    rfl
  · obtain ⟨p, l, ns, S, rfl, hP, hS, hl, l0, l1, k⟩ := h
    refine ⟨_, pss_one (ps_ret (pe_ix ix_list (pv 1) (C8.pe_c cd hr (by decide) (by rfl) (pa_cons (pv 0) (pa_cons (pe_callB call_len_seq (by rfl) T.len PySem.boot_len (pa_cons (pv 1) pa_nil)) pa_nil))) (fun _ _ => rfl))), ?_⟩
    refine ⟨_, rfl, _, rfl, _, rfl, l, _, rfl, .inl (SqL.of hl), p, _, S, rfl, hP, hS, by rw [List.length_map]; omega, by rw [List.length_map]; omega, fun d H1 d0 d1 hP1 s1 => ?_⟩
    rw [List.length_map] at d1
    obtain ⟨g, t, gs, ss, z, n, hp, _⟩ := hP
    have nlp := ints_ne hp hl
    obtain ⟨j, ej⟩ : ∃ j : Nat, d = (j : Int) := ⟨d.toNat, by omega⟩
    have hj : j < ns.length := by omega
    refine ⟨l, _, _, V.int ns[j], rfl, rfl, SqL.of (s1 _ _ hl nlp), at_of (j := j) ej (by rw [List.getElem?_map, List.getElem?_eq_getElem hj]; rfl), ?_⟩
    exact k _ H1 (List.getElem_mem hj) hP1 s1
end
end K9

/-! the parts of a sure kind -/
namespace K9
open PySem PySem.Spec PyProof.Rows L2
theorem asc_of {ns : List Int} (h : ns.Pairwise (· < ·)) : AscI ns := fun i x y hx hy => by
  obtain ⟨h1, e1⟩ := List.getElem?_eq_some_iff.mp hx
  obtain ⟨h2, e2⟩ := List.getElem?_eq_some_iff.mp hy
  have z := List.pairwise_iff_getElem.mp h i (i + 1) h1 h2 (Nat.lt_succ_self i)
  rw [e1, e2] at z
  exact z
theorem pw_snoc {ns : List Int} {x : Int} (h : ns.Pairwise (· < ·)) (hx : ∀ n ∈ ns, n < x) : (ns ++ [x]).Pairwise (· < ·) := by
  refine List.pairwise_append.mpr ⟨h, List.pairwise_singleton _ _, fun a ha b hb => ?_⟩
  have e : b = x := by simpa using hb
  rw [e]
  exact hx a ha
theorem asc_one (p : Int × Int) : AscP [p] := fun i a b h1 h2 => by
  cases i with
  | zero => simp at h2
  | succ i => simp at h1
theorem Sam.new {p a : Addr} {H H' : Hp} {o : HO} (s : Sam p H H') (ha : H a = none) : Sam p H (upd H' a o) := fun b u e n => by
  rw [upd_ne (ne_of_none e ha)]
  exact s b u e n
/-- the rows so far -/
structure Rows (H H' : Hp) (p lk dr : Addr) (S : Addr → Prop) (many : Int) (i j : Nat) : Prop where
  pool : PoolAt H' p S
  sam : Sam p H H'
  looks : ∃ (xs : List V) (L : List (Int × Int)), H' lk = some (.lst xs) ∧ L.length = i ∧ Paired (RowV H') xs (L.map fun q => [q]) ∧ ∀ q ∈ L, OkOut many q
  drifts : ∃ ys : List V, H' dr = some (.lst ys) ∧ Paired (IntsV H') ys (List.replicate j [])
section
variable {H H' H'' : Hp} {p lk dr d : Addr} {S T : Addr → Prop} {many : Int} {i j : Nat} {x : V}
theorem Rows.sam' (r : Rows H H' p lk dr S many i j) (n1 : lk ≠ p) (n2 : dr ≠ p) (q : PoolAt H'' p T) (s : Sam p H' H'') : Rows H H'' p lk dr T many i j := by
  obtain ⟨h1, h2, ⟨xs, L, h3, h4, h5, h6⟩, ys, h7, h8⟩ := r
  have t := h1.tups s
  exact ⟨q, h2.trans s, ⟨xs, L, s _ _ h3 n1, h4, Paired.mapP h5 fun _ _ z => kt_row _ _ _ _ t z, h6⟩, ys, s _ _ h7 n2, Paired.mapP h8 fun _ _ z => kt_ints _ _ _ _ t z⟩
theorem Rows.same (r : Rows H H' p lk dr S many i j) (n1 : lk ≠ p) (n2 : dr ≠ p) (s : Same H' H'') : Rows H H'' p lk dr S many i j := r.sam' n1 n2 (r.pool.keep s) (Sam.of s)
/-- a new thing of ours that is no list and no tuple is written -/
theorem Rows.other {o u : HO} (r : Rows H H' p lk dr S many i j) (hd : H' d = some u) (hn : H d = none) (nl : ∀ xs, u ≠ .lst xs) (nt : ∀ xs, u ≠ .tup xs) : Rows H (upd H' d o) p lk dr S many i j := by
  obtain ⟨h1, h2, ⟨xs, L, h3, h4, h5, h6⟩, ys, h7, h8⟩ := r
  have nn : ∀ b zs, H' b = some (.lst zs) → b ≠ d := fun b zs e q => by
    rw [q, hd] at e
    exact nl zs (Option.some.inj e)
  have t : Tups H' (upd H' d o) := tups_upd hd nt
  exact ⟨h1.other hd nl, h2.new hn, ⟨xs, L, by rw [upd_ne (nn _ _ h3)]; exact h3, h4, Paired.mapP h5 fun _ _ z => kt_row _ _ _ _ t z, h6⟩, ys, by rw [upd_ne (nn _ _ h7)]; exact h7, Paired.mapP h8 fun _ _ z => kt_ints _ _ _ _ t z⟩
theorem Rows.look {q : Int × Int} (r : Rows H H' p lk dr S many i j) (hS : S lk) (hn : H lk = none) (n1 : lk ≠ p) (n3 : dr ≠ lk) (hx : RowV H' x [q]) (hq : OkOut many q) :
    ∃ xs, H' lk = some (.lst xs) ∧ xs.length = i ∧ Rows H (upd H' lk (.lst (xs ++ [x]))) p lk dr S many (i + 1) j := by
  obtain ⟨h1, h2, ⟨xs, L, h3, h4, h5, h6⟩, ys, h7, h8⟩ := r
  have t : Tups H' (upd H' lk (.lst (xs ++ [x]))) := tups_upd h3 fun _ z => nomatch z
  have e := paired_len h5
  rw [List.length_map] at e
  refine ⟨xs, h3, by omega, h1.write hS n1, h2.new hn, ⟨xs ++ [x], L ++ [q], upd_same, by rw [List.length_append, h4]; rfl, ?_, fun z hz => ?_⟩, ys, by rw [upd_ne n3]; exact h7, Paired.mapP h8 fun _ _ z => kt_ints _ _ _ _ t z⟩
  · rw [List.map_append]
    exact paired_snoc (Paired.mapP h5 fun _ _ z => kt_row _ _ _ _ t z) (kt_row _ _ _ _ t hx)
  · rcases List.mem_append.mp hz with hz | hz
    · exact h6 z hz
    · have e : z = q := by simpa using hz
      rw [e]
      exact hq
theorem Rows.drift (r : Rows H H' p lk dr S many i j) (hS : S dr) (hn : H dr = none) (n2 : dr ≠ p) (n3 : dr ≠ lk) (hx : IntsV H' x []) :
    ∃ ys, H' dr = some (.lst ys) ∧ ys.length = j ∧ Rows H (upd H' dr (.lst (ys ++ [x]))) p lk dr S many i (j + 1) := by
  obtain ⟨h1, h2, ⟨xs, L, h3, h4, h5, h6⟩, ys, h7, h8⟩ := r
  have t : Tups H' (upd H' dr (.lst (ys ++ [x]))) := tups_upd h7 fun _ z => nomatch z
  have e := paired_len h8
  rw [List.length_replicate] at e
  refine ⟨ys, h7, e, h1.write hS n2, h2.new hn, ⟨xs, L, by rw [upd_ne n3.symm]; exact h3, h4, Paired.mapP h5 fun _ _ z => kt_row _ _ _ _ t z, h6⟩, ys ++ [x], upd_same, ?_⟩
  rw [List.replicate_succ']
  exact paired_snoc (Paired.mapP h8 fun _ _ z => kt_ints _ _ _ _ t z) (kt_ints _ _ _ _ t hx)
end
/-- the puts so far -/
structure Puts (H H' : Hp) (p lk dr pu : Addr) (S : Addr → Prop) (many : Int) (n i : Nat) : Prop where
  rows : Rows H H' p lk dr S many n n
  puts : ∃ (zs : List V) (PP : List (Int × List Int)), H' pu = some (.lst zs) ∧ PP.length = i ∧ Paired (PutV H') zs PP ∧ ∀ q ∈ PP, OkPut many q
section
variable {H H' H'' : Hp} {p lk dr pu : Addr} {S T : Addr → Prop} {many : Int} {n i : Nat} {x : V}
theorem Puts.sam' (r : Puts H H' p lk dr pu S many n i) (n1 : lk ≠ p) (n2 : dr ≠ p) (n3 : pu ≠ p) (q : PoolAt H'' p T) (s : Sam p H' H'') : Puts H H'' p lk dr pu T many n i := by
  obtain ⟨h1, zs, PP, h3, h4, h5, h6⟩ := r
  have t := h1.pool.tups s
  exact ⟨h1.sam' n1 n2 q s, zs, PP, s _ _ h3 n3, h4, Paired.mapP h5 fun _ _ z => kt_put _ _ _ _ t z, h6⟩
theorem Puts.same (r : Puts H H' p lk dr pu S many n i) (n1 : lk ≠ p) (n2 : dr ≠ p) (n3 : pu ≠ p) (s : Same H' H'') : Puts H H'' p lk dr pu S many n i := r.sam' n1 n2 n3 (r.rows.pool.keep s) (Sam.of s)
theorem Puts.put {q : Int × List Int} (r : Puts H H' p lk dr pu S many n i) (hS : S pu) (hn : H pu = none) (n3 : pu ≠ p) (n4 : lk ≠ pu) (n5 : dr ≠ pu) (hx : PutV H' x q) (hq : OkPut many q) :
    ∃ zs, H' pu = some (.lst zs) ∧ zs.length = i ∧ Puts H (upd H' pu (.lst (zs ++ [x]))) p lk dr pu S many n (i + 1) := by
  obtain ⟨⟨h1, h2, ⟨xs, L, h3, h4, h5, h6⟩, ys, h7, h8⟩, zs, PP, h9, h10, h11, h12⟩ := r
  have t : Tups H' (upd H' pu (.lst (zs ++ [x]))) := tups_upd h9 fun _ z => nomatch z
  refine ⟨zs, h9, (paired_len h11).trans h10, ⟨h1.write hS n3, h2.new hn, ⟨xs, L, by rw [upd_ne n4]; exact h3, h4, Paired.mapP h5 fun _ _ z => kt_row _ _ _ _ t z, h6⟩, ys, by rw [upd_ne n5]; exact h7, Paired.mapP h8 fun _ _ z => kt_ints _ _ _ _ t z⟩,
    zs ++ [x], PP ++ [q], upd_same, by rw [List.length_append, h10]; rfl, paired_snoc (Paired.mapP h11 fun _ _ z => kt_put _ _ _ _ t z) (kt_put _ _ _ _ t hx), fun z hz => ?_⟩
  rcases List.mem_append.mp hz with hz | hz
  · exact h12 z hz
  · have e : z = q := by simpa using hz
    rw [e]
    exact hq
end
section
variable {H H' : Hp} {p lk dr pu d : Addr} {S : Addr → Prop} {many : Int} {n i : Nat}
/-- a list of ours is written -/
theorem Puts.own {us zs' : List V} (r : Puts H H' p lk dr pu S many n i) (hS : S d) (hd : H' d = some (.lst us)) (hn : H d = none) (n0 : d ≠ p) (n1 : lk ≠ d) (n2 : dr ≠ d) (n3 : pu ≠ d) : Puts H (upd H' d (.lst zs')) p lk dr pu S many n i := by
  obtain ⟨⟨h1, h2, ⟨xs, L, h3, h4, h5, h6⟩, ys, h7, h8⟩, zs, PP, h9, h10, h11, h12⟩ := r
  have t : Tups H' (upd H' d (.lst zs')) := tups_upd hd fun _ z => nomatch z
  exact ⟨⟨h1.write hS n0, h2.new hn, ⟨xs, L, by rw [upd_ne n1]; exact h3, h4, Paired.mapP h5 fun _ _ z => kt_row _ _ _ _ t z, h6⟩, ys, by rw [upd_ne n2]; exact h7, Paired.mapP h8 fun _ _ z => kt_ints _ _ _ _ t z⟩,
    zs, PP, by rw [upd_ne n3]; exact h9, h10, Paired.mapP h11 fun _ _ z => kt_put _ _ _ _ t z, h12⟩
end
/-- what the parts are -/
structure Parts (H H' : Hp) (p : Addr) (l : Addr) (L : List (Int × Int)) (PP : List (Int × List Int)) : Prop where
  pool : PoolAt H' p (fun _ => False)
  sam : Sam p H H'
  lst : ∃ vl vd vp, H' l = some (.lst [vl, vd, vp]) ∧ LooksV H' vl (L.map fun q => [q]) ∧ DriftsV H' vd (List.replicate L.length []) ∧ PutsV H' vp PP
  l1 : 1 ≤ L.length
  l8 : L.length ≤ 8
  ok : ∀ q ∈ L, OkOut (L.length : Int) q
  p4 : PP.length ≤ 4
  okp : ∀ q ∈ PP, OkPut (L.length : Int) q
section
variable {P : Program} {w : World} {K : PySem.W.Frag} {mg : Str → Option Value} {base : Heap}
def spParts : Sp := fun vs H Q _ => ∃ (p : Addr), vs = [.ref p, .bl true] ∧ PoolAt H p (fun _ => False) ∧ ∀ (l : Addr) (L : List (Int × Int)) (PP : List (Int × List Int)) (H' : Hp), Parts H H' p l L PP → Q (.ref l) H'
abbrev n36 : List Str := ["_law_pool_here", "_law_steady", "_law_many", "_law_answers", "_law_looks", "_law_drifts", "_law_standing", "_law_outcomes", "_law_turn", "_law_row", "_law_puts", "_law_torn"]
theorem sc36 : FnScope n36 ["_law_pool_here", "_law_steady"] (defScope (top 36)) := ⟨rfl, rfl, rfl, by decide +kernel, rfl, by decide +kernel, by decide +kernel⟩
theorem cal_law_parts (F : Known K mg "_law_kind_parts" (top 36)) (T : Free mg) (cd : Cal P w K mg base 1 "_law_draw" spDraw) (cp : Cal P w K mg base 2 "_law_pick" spPick) : Cal P w K mg base 3 "_law_kind_parts" spParts := by
  refine cal_of F sc36 (fun _ _ _ _ _ _ us hl => match us, hl with | [_, _], _ => rfl) (fun vs H Q E h => ?_) (fun f cdv A outer s H vs Q E hr h => ?_)
  · obtain ⟨p, rfl, _⟩ := h
    rfl
  · obtain ⟨p, rfl, hP, k⟩ := h
    refine ⟨_, (pss_cons (ps_set (i := 2) sc36.nd rfl (Or.inl rfl) (C8.pe_c cp hr (by decide) (by rfl) (pa_cons (pv 0) (pa_cons (pe_lst (pa_cons (pe_int) (pa_cons (pe_int) (pa_cons (pe_int) (pa_cons (pe_int) (pa_cons (pe_int) (pa_cons (pe_int) (pa_cons (pe_int) (pa_cons (pe_int) pa_nil))))))))) pa_nil)))) (pss_cons (ps_set (i := 3) sc36.nd rfl (Or.inl rfl) (C8.pe_c cp hr (by decide) (by rfl) (pa_cons (pv 0) (pa_cons (pe_lst (pa_cons (pe_int) (pa_cons (pe_int) (pa_cons (pe_int) (pa_cons (pe_int) (pa_cons (pe_int) pa_nil)))))) pa_nil)))) (pss_cons (ps_set (i := 4) sc36.nd rfl (Or.inl rfl) (pe_lst pa_nil)) (pss_cons (ps_set (i := 5) sc36.nd rfl (Or.inl rfl) (pe_lst pa_nil)) (pss_cons (ps_for PassesOwn.never rfl (pi_range1 (by rfl) T.range (pa_cons (pv 2) pa_nil)) (pg_name (i := 6) sc36.nd rfl (Or.inl rfl))
        (pss_cons (ps_set (i := 7) sc36.nd rfl (Or.inl rfl) pe_dnewT) (pss_cons (ps_for PassesOwn.never rfl (pi_range1 (by rfl) T.range (pa_cons (pe_ifExp (pt_val (pv 1)) pe_int (C8.pe_c cp hr (by decide) (by rfl) (pa_cons (pv 0) (pa_cons (pe_lst (pa_cons (pe_int) (pa_cons (pe_int) (pa_cons (pe_int) (pa_cons (pe_int) (pa_cons (pe_int) (pa_cons (pe_int) (pa_cons (pe_int) pa_nil)))))))) pa_nil)))) pa_nil)) (pg_name (i := 8) sc36.nd rfl (Or.inl rfl))
          (pss_one (ps_dput (hu_of hr) (pv 7) (pe_tup (pa_cons (C8.pe_c cd hr (by decide) (by rfl) (pa_cons (pv 0) (pa_cons (pv 3) pa_nil))) (pa_cons (C8.pe_c cd hr (by decide) (by rfl) (pa_cons (pv 0) (pa_cons (pv 2) pa_nil))) pa_nil))) pe_bl rfl))) (pss_cons (ps_expr (pe_bm PySem.F.plainAttrs_list PySem.F.slot_list_append PySem.F.type_list_append mt_append (pv 4) (pa_cons (pe_callTy call_tuple_of (by rfl) T.tuple (by decide +kernel) (pa_cons (pe_callB (cr_sortD rfl hr.units) (by rfl) T.sorted (by decide +kernel) (pa_cons (pv 7) pa_nil)) pa_nil)) pa_nil))) (pss_cons (ps_set (i := 9) sc36.nd rfl (Or.inl rfl) pe_dnewK) (pss_cons (ps_for PassesOwn.never rfl (pi_range1 (by rfl) T.range (pa_cons (pe_ifExp (pt_val (pv 1)) pe_int (C8.pe_c cp hr (by decide) (by rfl) (pa_cons (pv 0) (pa_cons (pe_lst (pa_cons (pe_int) (pa_cons (pe_int) (pa_cons (pe_int) (pa_cons (pe_int) (pa_cons (pe_int) pa_nil)))))) pa_nil)))) pa_nil)) (pg_name (i := 8) sc36.nd rfl (Or.inl rfl))
          (pss_one (ps_dput (hu_of hr) (pv 9) (C8.pe_c cd hr (by decide) (by rfl) (pa_cons (pv 0) (pa_cons (pv 2) pa_nil))) pe_bl rfl))) (pss_one (ps_expr (pe_bm PySem.F.plainAttrs_list PySem.F.slot_list_append PySem.F.type_list_append mt_append (pv 5) (pa_cons (pe_callTy call_tuple_of (by rfl) T.tuple (by decide +kernel) (pa_cons (pe_callB (call_sortedDI rfl) (by rfl) T.sorted (by decide +kernel) (pa_cons (pv 9) pa_nil)) pa_nil)) pa_nil)))))))))) (pss_cons (ps_set (i := 10) sc36.nd rfl (Or.inl rfl) (pe_lst pa_nil)) (pss_cons (ps_for PassesOwn.never rfl (pi_range1 (by rfl) T.range (pa_cons (C8.pe_c cp hr (by decide) (by rfl) (pa_cons (pv 0) (pa_cons (pe_lst (pa_cons (pe_int) (pa_cons (pe_int) (pa_cons (pe_int) (pa_cons (pe_int) (pa_cons (pe_int) pa_nil)))))) pa_nil))) pa_nil)) (pg_name (i := 8) sc36.nd rfl (Or.inl rfl))
        (pss_cons (ps_setLc (i := 11) (own := [("_law_standing", 6)]) (g := gName 6) rfl sc36.nd rfl rfl (sw_true rfl rfl rfl (by decide +kernel)) (pi_range1 (by rfl) T.range (pa_cons (pv 2) pa_nil))
          (blkOk_by (own := [("_law_standing", 6)]) (N := n36) (sc := defScope (top 36)) (by decide +kernel))
          (fun _ _ _ _ _ => pg_name (i := 6) sc36.nd rfl (Or.inl rfl)) (fun _ _ _ _ _ => pts_one (pt_cmpR op_eq (C8.pe_c cd hr (by decide) (by rfl) (pa_cons (pv 0) (pa_cons (pe_int) pa_nil))) pe_int (nomark _)))
          (fun _ _ _ _ _ => pv 6)) (pss_one (ps_expr (pe_bm PySem.F.plainAttrs_list PySem.F.slot_list_append PySem.F.type_list_append mt_append (pv 10) (pa_cons (pe_tup (pa_cons (C8.pe_c cd hr (by decide) (by rfl) (pa_cons (pv 0) (pa_cons (pv 2) pa_nil))) (pa_cons (pe_callTy call_tuple_of (by rfl) T.tuple (by decide +kernel) (pa_cons (pv 11) pa_nil)) pa_nil))) pa_nil)))))) (pss_one (ps_ret (pe_lst (pa_cons (pe_callTy call_tuple_of (by rfl) T.tuple (by decide +kernel) (pa_cons (pv 4) pa_nil)) (pa_cons (pe_callTy call_tuple_of (by rfl) T.tuple (by decide +kernel) (pa_cons (pv 5) pa_nil)) (pa_cons (pe_callTy call_tuple_of (by rfl) T.tuple (by decide +kernel) (pa_cons (pv 10) pa_nil)) pa_nil))))))))))))), ?_⟩
    have nS : ∀ (G : Hp) (a : Addr), (fun _ : Addr => False) a → G a ≠ none := fun _ _ e => e.elim
    refine ⟨_, rfl, (by show 8 ≤ sizeLine; decide), fun l0 nl0 => ?_⟩
    refine ⟨p, l0, [1, 2, 2, 3, 3, 4, 5, 8], _, rfl, hP.keep (same_new nl0), nS _, upd_same, by decide, by decide, fun many H1 hm hP1 s1 => ?_⟩
    have s01 : Sam p H H1 := (Sam.of (same_new nl0)).trans s1
    have m1 : 1 ≤ many ∧ many ≤ 8 := by
      simp at hm
      omega
    refine ⟨_, rfl, (by show 5 ≤ sizeLine; decide), fun l1 nl1 => ?_⟩
    refine ⟨p, l1, [1, 2, 2, 3, 10], _, rfl, hP1.keep (same_new nl1), nS _, upd_same, by decide, by decide, fun ans H2 ha hP2 s2 => ?_⟩
    have s02 : Sam p H H2 := s01.trans ((Sam.of (same_new nl1)).trans s2)
    have a1 : 1 ≤ ans ∧ ans ≤ 10 := by
      simp at ha
      omega
    refine ⟨Nat.zero_le _, fun lk nlk => ⟨Nat.zero_le _, fun dr ndr => ?_⟩⟩
    have nlkp : lk ≠ p := hP2.ne_new nlk
    have ndlk : dr ≠ lk := fun e => by
      rw [e, upd_same] at ndr
      cases ndr
    have ndr2 : H2 dr = none := by
      rw [upd_ne ndlk] at ndr
      exact ndr
    have ndrp : dr ≠ p := hP2.ne_new ndr2
    have hn0 : ∀ a, a ≠ p → H2 a = none → H a = none := fun a na e => by
      cases q : H a with
      | none => rfl
      | some u =>
        rw [s02 a u q na] at e
        cases e
    have hlk0 : H lk = none := hn0 lk nlkp nlk
    have hdr0 : H dr = none := hn0 dr ndrp ndr2
    let S : Addr → Prop := fun b => ((False ∨ b = lk) ∨ b = dr)
    have r0 : Rows H (upd (upd H2 lk (.lst [])) dr (.lst [])) p lk dr S many 0 0 :=
      ⟨(hP2.grow nlk).grow ndr, (s02.new hlk0).new hdr0, ⟨[], [], by rw [upd_ne ndlk.symm, upd_same], rfl, .nil, fun q hq => nomatch hq⟩, [], upd_same, .nil⟩
    have Sok : ∀ {G : Hp} {i j : Nat}, Rows H G p lk dr S many i j → ∀ a, S a → G a ≠ none := fun {G i j} r a ha => by
      obtain ⟨_, _, ⟨xs, L, h3, _⟩, ys, h7, _⟩ := r
      rcases ha with (e | e) | e
      · exact e.elim
      · rw [e, h3]
        simp
      · rw [e, h7]
        simp
    refine ⟨_, rfl, many, rfl, by omega, by omega, ?_⟩
    refine for_range (lo := 0) (n := many.toNat) (fun i σ H' => ∃ v6 v7 v8 v9 : Option V, σ = [some (.ref p), some (.bl true), some (.int many), some (.int ans), some (.ref lk), some (.ref dr), v6, v7, v8, v9, none, none] ∧ Rows H H' p lk dr S many i i)
      ⟨none, none, none, none, rfl, r0⟩ ?_ ?_
    · rintro i σ H3 hi ⟨v6, v7, v8, v9, rfl, r3⟩
      intro d nd
      have ndp : d ≠ p := r3.pool.ne_new nd
      have hd0 : H d = none := by
        cases q : H d with
        | none => rfl
        | some u =>
          rw [r3.sam d u q ndp] at nd
          cases nd
      have r4 := r3.same nlkp ndrp (same_new (o := .dT []) nd)
      refine ⟨_, rfl, true, rfl, iteT ⟨1, rfl, by decide, by decide, ?_⟩⟩
      refine for_range (lo := 0) (n := (1 : Int).toNat) (fun j σ H' => ∃ v8 : Option V, σ = [some (.ref p), some (.bl true), some (.int many), some (.int ans), some (.ref lk), some (.ref dr), some (.int (0 + (i : Int))), some (.ref d), v8, v9, none, none] ∧ Rows H H' p lk dr S many i i ∧
          ∃ kvs : List (List Key × V), H' d = some (.dT kvs) ∧ (j = 0 → kvs = []) ∧ (j = 1 → ∃ x y : Int, kvs = [([Sum.inl x, Sum.inl y], .bl true)] ∧ 0 ≤ x ∧ x < ans ∧ 0 ≤ y ∧ y < many))
        ⟨v8, rfl, r4, [], upd_same, fun _ => rfl, fun e => by cases e⟩ ?_ ?_
      · rintro j σ H5 hj ⟨v8, rfl, r5, kvs, hd5, k0, _⟩
        have ej : j = 0 := by
          have : j < 1 := hj
          omega
        have ek := k0 ej
        subst ek
        refine ⟨_, rfl, ?_⟩
        refine ⟨_, rfl, _, rfl, p, ans, S, rfl, r5.pool, Sok r5, by omega, by omega, fun x G1 x0 x1 q1 t1 => ?_⟩
        have r6 := r5.sam' nlkp ndrp q1 t1
        refine ⟨_, rfl, _, rfl, p, many, S, rfl, q1, Sok r6, by omega, by omega, fun y G2 y0 y1 q2 t2 => ?_⟩
        have r7 := r6.sam' nlkp ndrp q2 t2
        refine ⟨(by show 2 ≤ sizeLine; decide), fun b nb => ?_⟩
        have hd7 : G2 d = some (.dT []) := t2 _ _ (t1 _ _ hd5 ndp) ndp
        have ndb : d ≠ b := ne_of_none hd7 nb
        have hd8 : upd G2 b (.tup [.int x, .int y]) d = some (.dT []) := by rw [upd_ne ndb]; exact hd7
        have r8 := r7.same nlkp ndrp (same_new (o := .tup [.int x, .int y]) nb)
        refine ⟨d, _, rfl, DPut.t (k := [Sum.inl x, Sum.inl y]) hd8 upd_same (by show 0 < sizeLine; decide), ?_⟩
        refine ⟨_, rfl, r8.other hd8 hd0 (fun _ z => nomatch z) (fun _ z => nomatch z), [([Sum.inl x, Sum.inl y], .bl true)], ?_, fun e => by omega, fun _ => ⟨x, y, rfl, x0, x1, y0, y1⟩⟩
        rw [upd_same, putK_new _ valV_nil]
        rfl
      rintro σ H5 ⟨v8', rfl, r5, kvs, hd5, _, k1⟩
      obtain ⟨x, y, rfl, x0, x1, y0, y1⟩ := k1 rfl
      -- looks.append(tuple(sorted(outcomes)))
      obtain ⟨xs5, L5, hlk5, hL5, _, _⟩ := id r5.looks
      refine ⟨_, rfl, .inl ⟨rfl, _, SqL.of hlk5⟩, _, rfl, d, x, y, _, rfl, hd5, fun q b nq hb => ?_⟩
      refine ⟨q, _, rfl, .inl ⟨SqL.of upd_same, fun u nu => ?_⟩⟩
      have r6 := (r5.same nlkp ndrp (same_new (o := .lst [.ref b]) nq)).same nlkp ndrp (same_new (o := .tup [.ref b]) nu)
      have nbq : b ≠ q := ne_of_none hb nq
      have hb6 : upd (upd H5 q (.lst [.ref b])) u (.tup [.ref b]) b = some (.tup [.int x, .int y]) := by
        have e : upd H5 q (.lst [.ref b]) b = some (.tup [.int x, .int y]) := by rw [upd_ne nbq]; exact hb
        rw [upd_ne (ne_of_none e nu)]
        exact e
      obtain ⟨xs6, hlk6, lx6, r7⟩ := r6.look (x := .ref u) (q := (x, y)) (.inl (.inr rfl)) hlk0 nlkp ndlk ⟨u, [.ref b], rfl, upd_same, .cons ⟨b, rfl, hb6⟩ .nil⟩ ⟨x0, by show x ≤ 9; omega, y0, y1⟩
      refine ⟨lk, _, _, rfl, rfl, hlk6, line_of (by omega), ?_⟩
      -- row = {}; the empty loop
      intro w nw
      have r8 := r7.same nlkp ndrp (same_new (o := .dK []) nw)
      have hw0 : upd (upd (upd (upd H5 q (.lst [.ref b])) u (.tup [.ref b])) lk (.lst (xs6 ++ [.ref u]))) w (.dK []) w = some (.dK []) := upd_same
      refine ⟨_, rfl, true, rfl, iteT ⟨0, rfl, by decide, by decide, ?_⟩⟩
      refine for_range (lo := 0) (n := (0 : Int).toNat) (fun j σ H' => σ = [some (.ref p), some (.bl true), some (.int many), some (.int ans), some (.ref lk), some (.ref dr), some (.int (0 + (i : Int))), some (.ref d), v8', some (.ref w), none, none] ∧
          H' = upd (upd (upd (upd H5 q (.lst [.ref b])) u (.tup [.ref b])) lk (.lst (xs6 ++ [.ref u]))) w (.dK [])) ⟨rfl, rfl⟩ (fun j σ G hj _ => absurd hj (Nat.not_lt_zero _)) ?_
      rintro σ G ⟨rfl, rfl⟩
      -- drifts.append(tuple(sorted(row)))
      obtain ⟨ys8, hdr8, _⟩ := id r8.drifts
      refine ⟨_, rfl, .inl ⟨rfl, _, SqL.of hdr8⟩, _, rfl, w, [], [], rfl, Rd.of hw0, rfl, by decide, fun ys z hp _ nz => ?_⟩
      have ey : ys = [] := hp.eq_nil
      subst ey
      refine ⟨z, _, rfl, .inl ⟨SqL.of upd_same, fun u2 nu2 => ?_⟩⟩
      have r9 := (r8.same nlkp ndrp (same_new (o := .lst ([].map V.int)) nz)).same nlkp ndrp (same_new (o := .tup ([].map V.int)) nu2)
      obtain ⟨ys9, hdr9, ly9, r10⟩ := r9.drift (x := .ref u2) (.inr rfl) hdr0 ndrp ndlk ⟨u2, rfl, upd_same⟩
      exact ⟨dr, _, _, rfl, rfl, hdr9, line_of (by omega), _, _, _, _, rfl, r10⟩
    rintro σ H3 ⟨v6, v7, v8, v9, rfl, r3⟩
    refine ⟨Nat.zero_le _, fun pu npu => ?_⟩
    have npup : pu ≠ p := r3.pool.ne_new npu
    have hnew : ∀ (G : Hp) (a : Addr), Sam p H G → a ≠ p → G a = none → H a = none := fun G a sg na e => by
      cases q : H a with
      | none => rfl
      | some u =>
        rw [sg a u q na] at e
        cases e
    have hpu0 : H pu = none := hnew _ _ r3.sam npup npu
    have nlkpu : lk ≠ pu := by
      obtain ⟨xs, L, h, _⟩ := r3.looks
      exact ne_of_none h npu
    have ndrpu : dr ≠ pu := by
      obtain ⟨ys, h, _⟩ := r3.drifts
      exact ne_of_none h npu
    let S2 : Addr → Prop := fun b => S b ∨ b = pu
    have w0 : Puts H (upd H3 pu (.lst [])) p lk dr pu S2 many many.toNat 0 := ⟨r3.sam' nlkp ndrp (r3.pool.grow npu) (Sam.of (same_new npu)), [], [], upd_same, rfl, .nil, fun q hq => nomatch hq⟩
    have Sok2 : ∀ {G : Hp} {T : Addr → Prop} {i : Nat}, Puts H G p lk dr pu T many many.toNat i → ∀ a, S2 a → G a ≠ none := fun {G T i} r a ha => by
      obtain ⟨⟨_, _, ⟨xs, L, h3, _⟩, ys, h7, _⟩, zs, PP, h9, _⟩ := r
      rcases ha with ((e | e) | e) | e
      · exact e.elim
      · rw [e, h3]
        simp
      · rw [e, h7]
        simp
      · rw [e, h9]
        simp
    refine ⟨_, rfl, (by show 5 ≤ sizeLine; decide), fun l5 nl5 => ?_⟩
    have w1 := w0.same nlkp ndrp npup (same_new (o := .lst ([0, 0, 1, 2, 4].map V.int)) nl5)
    refine ⟨p, l5, [0, 0, 1, 2, 4], S2, rfl, w1.rows.pool, Sok2 w1, upd_same, by decide, by decide, fun kk H4 hk q4 t4 => ?_⟩
    have w2 := w1.sam' nlkp ndrp npup q4 t4
    have k1 : 0 ≤ kk ∧ kk ≤ 4 := by
      simp at hk
      omega
    refine ⟨kk, rfl, by omega, by omega, ?_⟩
    refine for_range (lo := 0) (n := kk.toNat) (fun i σ H' => ∃ v6 v8 v11 : Option V, σ = [some (.ref p), some (.bl true), some (.int many), some (.int ans), some (.ref lk), some (.ref dr), v6, v7, v8, v9, some (.ref pu), v11] ∧ Puts H H' p lk dr pu S2 many many.toNat i)
      ⟨v6, v8, none, rfl, w2⟩ ?_ ?_
    · rintro i σ H5 hi ⟨v6, v8, v11, rfl, w5⟩
      refine ⟨_, rfl, many, rfl, by omega, by omega, fun D nD => ?_⟩
      have nDp : D ≠ p := w5.rows.pool.ne_new nD
      have hD0 : H D = none := hnew _ _ w5.rows.sam nDp nD
      have nlkD : lk ≠ D := by
        obtain ⟨xs, L, h, _⟩ := w5.rows.looks
        exact ne_of_none h nD
      have ndrD : dr ≠ D := by
        obtain ⟨ys, h, _⟩ := w5.rows.drifts
        exact ne_of_none h nD
      have npuD : pu ≠ D := by
        obtain ⟨zs, PP, h, _⟩ := w5.puts
        exact ne_of_none h nD
      let S3 : Addr → Prop := fun b => S2 b ∨ b = D
      let Pv : Nat → Hp → Prop := fun j G => Puts H G p lk dr pu S3 many many.toNat i ∧ ∃ ns : List Int, G D = some (.lst (ns.map V.int)) ∧ ns.length ≤ j ∧ ns.Pairwise (· < ·) ∧ ∀ n ∈ ns, 0 ≤ n ∧ n < (j : Int)
      have Sok3 : ∀ {G : Hp} {us : List V}, Puts H G p lk dr pu S3 many many.toNat i → G D = some (.lst us) → ∀ a, S3 a → G a ≠ none := fun {G us} r hG a ha => by
        rcases ha with e | e
        · exact Sok2 r a e
        · rw [e, hG]
          simp
      refine lc_range (lo := 0) (n := many.toNat) Pv ⟨w5.sam' nlkp ndrp npup (w5.rows.pool.grow nD) (Sam.of (same_new nD)), [], upd_same, Nat.le_refl _, .nil, fun n hn => nomatch hn⟩ (fun j G hj ⟨w6, ns, hG, l6, p6, b6⟩ => ?_) (fun G ⟨w6, ns, hG, l6, p6, b6⟩ => ?_)
      · refine ⟨rfl, ?_⟩
        refine ⟨_, rfl, p, 3, S3, rfl, w6.rows.pool, Sok3 w6 hG, by decide, by decide, fun t G1 t0 t1 q1 u1 => ?_⟩
        have w7 := w6.sam' nlkp ndrp npup q1 u1
        have hG1 : G1 D = some (.lst (ns.map V.int)) := u1 _ _ hG nDp
        refine ⟨rfl, _, rfl, ite2 (fun _ => ?_) (fun _ => ?_)⟩
        · refine ⟨_, rfl, _, hG1, by rw [List.length_map]; exact line_of (by omega), w7.own (.inr rfl) hG1 hD0 nDp nlkD ndrD npuD, ns ++ [0 + (j : Int)], ?_, ?_, ?_, ?_⟩
          · rw [upd_same, List.map_append]
            rfl
          · rw [List.length_append, List.length_singleton]
            omega
          · exact pw_snoc p6 fun n hn => by
              have := (b6 n hn).2
              omega
          · intro n hn
            rcases List.mem_append.mp hn with hn | hn
            · have := b6 n hn
              omega
            · have e : n = 0 + (j : Int) := by simpa using hn
              omega
        · exact ⟨w7, ns, hG1, by omega, p6, fun n hn => by have := b6 n hn; omega⟩
      -- puts.append((draw, tuple(torn)))
      obtain ⟨zs6, PP6, hpu6, _⟩ := id w6.puts
      refine ⟨_, rfl, .inl ⟨rfl, _, SqL.of hpu6⟩, ?_⟩
      refine ⟨_, rfl, _, rfl, p, many, S3, rfl, w6.rows.pool, Sok3 w6 hG, by omega, by omega, fun y G1 y0 y1 q1 u1 => ?_⟩
      have w7 := w6.sam' nlkp ndrp npup q1 u1
      have hG1 : G1 D = some (.lst (ns.map V.int)) := u1 _ _ hG nDp
      refine ⟨_, rfl, D, _, rfl, .inl ⟨SqL.of hG1, fun u nu => ?_⟩⟩
      refine ⟨(by show 2 ≤ sizeLine; decide), fun z nz => ?_⟩
      have nuz : u ≠ z := fun e => by
        rw [← e, upd_same] at nz
        cases nz
      have w8 := (w7.same nlkp ndrp npup (same_new (o := .tup (ns.map V.int)) nu)).same nlkp ndrp npup (same_new (o := .tup [.int y, .ref u]) nz)
      obtain ⟨zs8, hpu8, lz8, w9⟩ := w8.put (x := .ref z) (q := (y, ns)) (.inl (.inr rfl)) hpu0 npup nlkpu ndrpu ⟨z, .ref u, rfl, upd_same, u, rfl, by rw [upd_ne nuz, upd_same]⟩
        ⟨y0, y1, by show ns.length ≤ 1000; omega, fun n hn => by have := b6 n hn; show 0 ≤ n ∧ n < many; omega, asc_of p6⟩
      exact ⟨pu, _, _, rfl, rfl, hpu8, line_of (by omega), _, _, _, rfl, w9.sam' nlkp ndrp npup (w9.rows.pool.mono fun a ha => .inl ha) (Sam.refl p _)⟩
    rintro σ H5 ⟨v6, v8, v11, rfl, w5⟩
    obtain ⟨⟨h1, h2, ⟨xs, L, h3, h4, h5, h6⟩, ys, h7, h8⟩, zs, PP, h9, h10, h11, h12⟩ := w5
    have eL : (L.length : Int) = many := by omega
    refine ⟨_, rfl, lk, _, rfl, .inl ⟨SqL.of h3, fun u1 nu1 => ?_⟩⟩
    have g1 := same_new (o := .tup xs) nu1
    refine ⟨_, rfl, dr, _, rfl, .inl ⟨SqL.of (g1 _ _ h7), fun u2 nu2 => ?_⟩⟩
    have g2 := same_new (o := .tup ys) nu2
    refine ⟨_, rfl, pu, _, rfl, .inl ⟨SqL.of (g2 _ _ (g1 _ _ h9)), fun u3 nu3 => ?_⟩⟩
    have g3 := same_new (o := .tup zs) nu3
    refine ⟨(by show 3 ≤ sizeLine; decide), fun l nl => ?_⟩
    have g4 := same_new (o := .lst [.ref u1, .ref u2, .ref u3]) nl
    have ga := ((g1.trans g2).trans g3).trans g4
    refine k l L PP _ ⟨(h1.keep ga).mono fun a ha => ha.elim, h2.trans (Sam.of ga), ⟨.ref u1, .ref u2, .ref u3, upd_same,
      ⟨u1, xs, rfl, ((g2.trans g3).trans g4) _ _ upd_same, Paired.mapP h5 fun _ _ z => keeps_row _ _ _ _ ga z⟩, ⟨u2, ys, rfl, (g3.trans g4) _ _ upd_same, Paired.mapP (by rw [h4]; exact h8) fun _ _ z => keeps_ints _ _ _ _ ga z⟩,
      ⟨u3, zs, rfl, g4 _ _ upd_same, Paired.mapP h11 fun _ _ z => keeps_put _ _ _ _ ga z⟩⟩, by omega, by omega, by rw [eL]; exact h6, by omega, by rw [eL]; exact h12⟩
end
end K9

/-! the law's own rows -/
namespace K9
open PySem PySem.Spec PyProof.Rows L2
theorem cut_snoc (f : Nat → Int) (i : Nat) : (cut f 0 (i + 1)).map V.int = (cut f 0 i).map V.int ++ [V.int (f i)] := by
  unfold cut
  rw [List.range_succ, List.map_append, List.map_append]
  simp
theorem row_from (L : List (Int × Int)) (s a n : Nat) : cut (row L (wk L s a)) 0 n = cut (row L s) a n := cut_eq.mpr fun j _ => by
  show ans L (wk L (wk L s a) (0 + j)) = ans L (wk L s (a + j))
  rw [Nat.zero_add, wk_add]
section
variable {P : Program} {w : World} {K : PySem.W.Frag} {mg : Str → Option Value} {base : Heap}
/-! ### _law_long_row -/
def spLongRow : Sp := fun vs H Q _ => ∃ (v : V) (L : List (Int × Int)) (s m : Nat), vs = [v, .int (s : Int), .int (m : Int)] ∧ LooksV H v (L.map fun q => [q]) ∧ Ok L ∧ s < L.length ∧ m ≤ 1000 ∧
  ∀ (l : Addr) (u : V) (H' : Hp), Same H H' → H' l = some (.lst [u, .int (wk L s m : Int)]) → IntsV H' u (cut (row L s) 0 m) → Q (.ref l) H'
theorem sc37 : FnScope ["_law_looks", "_law_standing", "_law_many", "_law_row", "_law_turn", "_law_answer"] ["_law_looks", "_law_standing", "_law_many"] (defScope (top 37)) := ⟨rfl, rfl, rfl, by decide +kernel, rfl, by decide +kernel, by decide +kernel⟩
theorem cal_long_row (F : Known K mg "_law_long_row" (top 37)) (T : Free mg) : Cal P w K mg base 1 "_law_long_row" spLongRow := by
  refine cal_of F sc37 (fun _ _ _ _ _ _ us hl => match us, hl with | [_, _, _], _ => rfl) (fun vs H Q E h => ?_) (fun f cdv A outer s H vs Q E hr h => ?_)
  · obtain ⟨v, L, s, m, rfl, _⟩ := h
    rfl
  · obtain ⟨v, L, s, m, rfl, hv, ok, hs, hm, k⟩ := h
    obtain ⟨al, xl, rfl, hal, pl⟩ := id hv
    refine ⟨_, (pss_cons (ps_set (i := 3) sc37.nd rfl (Or.inl rfl) (pe_lst pa_nil)) (pss_cons (ps_for PassesOwn.never rfl (pi_range1 (by rfl) T.range (pa_cons (pv 2) pa_nil)) (pg_name (i := 4) sc37.nd rfl (Or.inl rfl))
        (pss_cons (ps_asg (pe_ix ix_tup (pe_ix ix_tup (pv 0) (pv 1) (fun _ _ => rfl)) pe_int (fun _ _ => rfl)) (pg_tup rfl (pgs_cons (pg_name (i := 5) sc37.nd rfl (Or.inl rfl)) (pgs_cons (pg_name (i := 1) sc37.nd rfl (Or.inl rfl)) pgs_nil)))) (pss_one (ps_expr (pe_bm PySem.F.plainAttrs_list PySem.F.slot_list_append PySem.F.type_list_append mt_append (pv 3) (pa_cons (pv 5) pa_nil)))))) (pss_one (ps_ret (pe_lst (pa_cons (pe_callTy call_tuple_of (by rfl) T.tuple (by decide +kernel) (pa_cons (pv 3) pa_nil)) (pa_cons (pv 1) pa_nil))))))), ?_⟩
    refine ⟨Nat.zero_le _, fun r nr => ?_⟩
    refine ⟨_, rfl, (m : Int), rfl, by omega, by omega, ?_⟩
    rw [Int.toNat_natCast]
    refine for_range (lo := 0) (n := m) (fun i σ H' => ∃ v4 v5 : Option V, σ = [some (.ref al), some (.int (wk L s i : Int)), some (.int (m : Int)), some (.ref r), v4, v5] ∧ Same H H' ∧ H' r = some (.lst ((cut (row L s) 0 i).map V.int)))
      ⟨none, none, rfl, same_new nr, upd_same⟩ ?_ ?_
    · rintro i σ H1 hi ⟨v4, v5, rfl, s1, hr1⟩
      obtain ⟨b, c, hb, hbb, hcc⟩ := look_at pl ok (wk_lt ok hs i)
      refine ⟨_, rfl, _, rfl, al, xl, _, _, rfl, rfl, SqT.of (s1 _ _ hal), at_of (j := wk L s i) rfl hb, b, _, _, _, rfl, rfl, SqT.of (s1 _ _ hbb), at_of (j := 0) rfl rfl, ?_⟩
      refine ⟨c, _, rfl, SqT.of (s1 _ _ hcc), rfl, _, _, rfl, _, _, rfl, rfl, ?_⟩
      refine ⟨_, rfl, .inl ⟨rfl, _, SqL.of hr1⟩, _, rfl, r, _, _, rfl, rfl, hr1, by rw [List.length_map, cut_len]; exact line_of (by omega), ?_⟩
      refine ⟨_, _, rfl, same_over nr s1, ?_⟩
      rw [upd_same, cut_snoc]
      rfl
    · rintro σ H1 ⟨v4, v5, rfl, s1, hr1⟩
      refine ⟨_, rfl, r, _, rfl, .inl ⟨SqL.of hr1, fun u nu => ?_⟩⟩
      refine ⟨_, rfl, (by show 2 ≤ sizeLine; decide), fun l nl => ?_⟩
      have nul : u ≠ l := fun e => by
        rw [← e, upd_same] at nl
        cases nl
      have nl1 : H1 l = none := by
        rw [upd_ne nul.symm] at nl
        exact nl
      exact k l (.ref u) _ (same_over (s1.free nl1) (same_over (s1.free nu) s1)) upd_same ⟨u, rfl, by rw [upd_ne nul, upd_same]⟩
/-! ### _law_class -/
def spLawClass : Sp := fun vs H Q _ => ∃ (v : V) (L : List (Int × Int)) (s : Nat), vs = [v, .int (s : Int)] ∧ LooksV H v (L.map fun q => [q]) ∧ Ok L ∧ s < L.length ∧ ∀ (r : List Int) (u : V) (H' : Hp), Same H H' → IntsV H' u r → Law L s r → Q u H'
theorem sc38 : FnScope ["_law_looks", "_law_standing", "_law_behind", "_law_row", "_law_length", "_law_at"] ["_law_looks", "_law_standing"] (defScope (top 38)) := ⟨rfl, rfl, rfl, by decide +kernel, rfl, by decide +kernel, by decide +kernel⟩
theorem cal_law_class (F : Known K mg "_law_class" (top 38)) (T : Free mg) (cl : Cal P w K mg base 1 "_law_long_row" spLongRow) : Cal P w K mg base 2 "_law_class" spLawClass := by
  refine cal_of F sc38 (fun _ _ _ _ _ _ us hl => match us, hl with | [_, _], _ => rfl) (fun vs H Q E h => ?_) (fun f cdv A outer s H vs Q E hr h => ?_)
  · obtain ⟨v, L, s, rfl, _⟩ := h
    rfl
  · obtain ⟨v, L, s, rfl, hv, ok, hs, k⟩ := h
    refine ⟨_, (pss_cons (ps_set (i := 2) sc38.nd rfl (Or.inl rfl) (pe_ix ix_list (C8.pe_c cl hr (by decide) (by rfl) (pa_cons (pv 0) (pa_cons (pv 1) (pa_cons (pe_int) pa_nil)))) pe_int (fun _ _ => rfl))) (pss_cons (ps_set (i := 3) sc38.nd rfl (Or.inr rfl) (pe_ix ix_list (C8.pe_c cl hr (by decide) (by rfl) (pa_cons (pv 0) (pa_cons (pv 2) (pa_cons (pe_int) pa_nil)))) pe_int (fun _ _ => rfl))) (pss_cons (ps_for PassesOwn.never rfl (pi_range2 (by rfl) T.range (pa_cons (pe_int) (pa_cons (pe_int) pa_nil))) (pg_name (i := 4) sc38.nd rfl (Or.inr rfl))
        (pss_one (ps_if (pt_cmpR (op_eqD hr.units) (pe_slice sl_tupA (pv 3) (po_some (pv 4)) po_none) (pe_slice sl_tupA (pv 3) po_none (po_some (pe_op op_sub pe_int (pv 4)))) (nomark _))
          (pss_one (ps_ret (pe_callB (cr_minT rfl hr.units) (by rfl) T.min (by decide +kernel) (pa_cons (pe_lc (own := [("_law_at", 5)]) (g := gName 5) (tt := tYes) rfl sc38.nd
            (pi_range1 (by rfl) T.range (pa_cons (pv 4) pa_nil)) (blkOk_by (own := [("_law_at", 5)]) (N := ["_law_looks", "_law_standing", "_law_behind", "_law_row", "_law_length", "_law_at"]) (sc := defScope (top 38)) (by decide +kernel))
            (fun _ _ _ _ _ => pg_name (i := 5) sc38.nd rfl (Or.inl rfl)) (fun _ _ _ _ _ => pts_nil)
            (fun _ _ _ _ _ => pe_slice (r := rSlA K) sl_tupA (pv 3) (po_some (pv 5)) (po_some (pe_op op_add (pv 5) (pv 4))))) pa_nil)))) pss_nil))) (pss_one (ps_ret (pe_tup pa_nil)))))), ?_⟩
    refine ⟨_, rfl, _, rfl, v, L, s, 16, rfl, hv, ok, hs, by decide, fun l1 u1 H1 s1 hl1 _ => ?_⟩
    refine ⟨l1, _, _, _, rfl, rfl, SqL.of hl1, at_of (j := 1) rfl rfl, ?_⟩
    refine ⟨_, rfl, _, rfl, v, L, wk L s 16, 48, rfl, keeps_looks _ _ _ _ s1 hv, ok, wk_lt ok hs 16, by decide, fun l2 u2 H2 s2 hl2 hu2 => ?_⟩
    refine ⟨l2, _, _, _, rfl, rfl, SqL.of hl2, at_of (j := 0) rfl rfl, ?_⟩
    rw [row_from] at hu2
    have s12 := s1.trans s2
    let R := cut (row L s) 16 48
    have lR : R.length = 48 := cut_len _ _ _
    refine ⟨1, 9, rfl, by decide, ?_⟩
    refine for_range (lo := 1) (n := ((9 : Int) - 1).toNat) (fun i σ H' => ∃ v4 : Option V, σ = [some v, some (.int (s : Int)), some (.int (wk L s 16 : Int)), some u2, v4, none] ∧ Same H2 H' ∧ ∀ q, 0 < q → q ≤ i → R.drop q ≠ R.take (48 - q))
      ⟨none, rfl, Same.refl H2, fun q q0 q1 => by omega⟩ ?_ ?_
    · rintro i σ H3 hi ⟨v4, rfl, s3, hno⟩
      have hi8 : i < 8 := hi
      have e1 : (1 : Int) + (i : Int) = ((i + 1 : Nat) : Int) := by omega
      have e2 : (48 : Int) - ((i + 1 : Nat) : Int) = ((48 - (i + 1) : Nat) : Int) := by omega
      rw [e1]
      have hu3 := keeps_ints _ _ _ _ s3 hu2
      refine ⟨_, rfl, _, rfl, _, rfl, np_of (cut_from (l := i + 1) hu3 fun z4 H4 s4 hz4 => ?_)⟩
      refine ⟨_, rfl, _, rfl, _, _, rfl, rfl, _, rfl, ?_⟩
      rw [e2]
      refine cut_to (l := 48 - (i + 1)) (keeps_ints _ _ _ _ s4 hu3) fun z5 H5 s5 hz5 => ?_
      have s35 := (s3.trans s4).trans s5
      refine eq_ints (keeps_ints _ _ _ _ s5 hz4) hz5 ⟨_, rfl, ?_⟩
      by_cases c : R.drop (i + 1) = R.take (48 - (i + 1))
      · rw [decide_eq_true c]
        refine iteT ?_
        have hu5 := keeps_ints _ _ _ _ s35 hu2
        refine ⟨_, rfl, _, rfl, by omega, by omega, fun D nD => ?_⟩
        refine lc_range (lo := 0) (n := ((i + 1 : Nat) : Int).toNat) (fun j H' => LcInv IntsV (fun j => (R.take (j + (i + 1))).drop j) H5 D j H') (lcinv_0 nD) (fun j H' hj p => ?_) (fun H6 ⟨s6, vs6, hD6, pr6⟩ => ?_)
        · rw [Int.toNat_natCast] at hj
          have e0 : (0 : Int) + (j : Int) = (j : Int) := by omega
          have e3 : (j : Int) + ((i + 1 : Nat) : Int) = ((j + (i + 1) : Nat) : Int) := by omega
          rw [e0]
          refine ⟨rfl, yes_of ?_⟩
          refine ⟨_, rfl, _, rfl, _, rfl, _, rfl, _, rfl, _, _, rfl, rfl, _, rfl, ?_⟩
          rw [e3]
          exact cut_both (l := j) (m := j + (i + 1)) (keeps_ints _ _ _ _ p.1 hu5) (by omega) fun y1 G1 t1 hy1 => lcinv_step kt_ints nD (by omega) p t1 hy1
        · rw [Int.toNat_natCast] at pr6
          refine min_ints hD6 pr6 (by omega) fun v6 j hj hv6 hmin => ?_
          exact k _ v6 H6 ((s12.trans s35).trans s6) hv6 (.inl ⟨i + 1, by omega, by omega, c, fun q q0 ql => hno q q0 (by omega), ⟨j, hj, rfl⟩, hmin⟩)
      · rw [decide_eq_false c]
        refine iteF ⟨_, rfl, s35, fun q q0 q1 => ?_⟩
        by_cases e : q = i + 1
        · rw [e]
          exact c
        · exact hno q q0 (by omega)
    · rintro σ H3 ⟨v4, rfl, s3, hno⟩
      refine ⟨Nat.zero_le _, fun u nu => ?_⟩
      exact k [] (.ref u) _ ((s12.trans s3).trans (same_new nu)) ⟨u, rfl, upd_same⟩ (.inr ⟨fun q q0 q8 => hno q q0 q8, rfl⟩)
/-! ### _law_is_sure -/
theorem shaped_list (ns : List Int) : SeqAt.shaped (.list (ns.map PyData.int)) = true := by
  have h1 := depAll_ints ns
  have h2 : PyData.depth (.list (ns.map PyData.int)) ≤ 64 := by simp only [PyData.depth]; omega
  show (PyData.canLay0 (.list (ns.map PyData.int)) && decide (PyData.depth (.list (ns.map PyData.int)) ≤ 64)) = true
  rw [Bool.and_eq_true]
  exact ⟨by simp only [PyData.canLay0]; exact layAll_ints ns, decide_eq_true h2⟩
theorem eqv_list (xs ys : List Int) : PyData.eqv (.list (xs.map PyData.int)) (.list (ys.map PyData.int)) = decide (xs = ys) := PySem.W.Datum.eqv xs ys
theorem eq_list {H : Hp} {Q : VK} {a b : Addr} {xs ys : List Int} (ha : H a = some (.lst (xs.map V.int))) (hb : H b = some (.lst (ys.map V.int))) (k : Q (.bl (decide (xs = ys))) H) : rEqD K (.ref a) (.ref b) H Q :=
  ⟨_, _, .lst (SqL.of ha) (dp_ints K H xs), .lst (SqL.of hb) (dp_ints K H ys), shaped_list xs, shaped_list ys, bl_of (Q := Q) (eqv_list xs ys) k⟩
theorem rep_one (n : Nat) (x : Int) : (List.replicate n [V.int x]).flatten = (List.replicate n x).map V.int := by
  induction n with
  | zero => rfl
  | succ n ih =>
    rw [List.replicate_succ, List.flatten_cons, ih, List.replicate_succ, List.map_cons]
    rfl
theorem all_len {α : Type} (LL : List (List α)) (c : Nat) : decide ((LL.map fun r => (r.length : Int)) = List.replicate LL.length (c : Int)) = LL.all (fun r => decide (r.length = c)) := by
  induction LL with
  | nil => rfl
  | cons r LL ih =>
    rw [List.map_cons, List.length_cons, List.replicate_succ, List.all_cons, ← ih, ← Bool.decide_and]
    exact decide_eq_decide.mpr (by rw [List.cons.injEq]; constructor <;> rintro ⟨h1, h2⟩ <;> exact ⟨by omega, h2⟩)
def spLawIsSure : Sp := fun vs H Q _ => ∃ (vl vd : V) (LL : List (List (Int × Int))) (DD : List (List Int)), vs = [vl, vd] ∧ LooksV H vl LL ∧ DriftsV H vd DD ∧ LL.length ≤ 1000 ∧ DD.length = LL.length ∧ ∀ H', Same H H' → Q (.bl (isSure LL DD)) H'
theorem sc39 : FnScope ["_law_looks", "_law_drifts", "_law_row"] ["_law_looks", "_law_drifts"] (defScope (top 39)) := ⟨rfl, rfl, rfl, by decide +kernel, rfl, by decide +kernel, by decide +kernel⟩
theorem cal_law_is_sure (F : Known K mg "_law_is_sure" (top 39)) (T : Free mg) : Cal P w K mg base 1 "_law_is_sure" spLawIsSure := by
  refine cal_of F sc39 (fun _ _ _ _ _ _ us hl => match us, hl with | [_, _], _ => rfl) (fun vs H Q E h => ?_) (fun f cdv A outer s H vs Q E hr h => ?_)
  · obtain ⟨vl, vd, LL, DD, rfl, _⟩ := h
    rfl
  · obtain ⟨vl, vd, LL, DD, rfl, ⟨al, xl, rfl, hal, pl⟩, ⟨ad, xd, rfl, had, pd⟩, n0, n1, k⟩ := h
    have ll := paired_len pl
    have ld := paired_len pd
    refine ⟨_, (pss_one (ps_ret (pe_and (pe_cmpR (op_eqD hr.units) (pe_lc (own := [("_law_row", 2)]) (g := gName 2) (tt := tYes) rfl sc39.nd
          (pi_tup (pv 0)) (blkOk_by (own := [("_law_row", 2)]) (N := ["_law_looks", "_law_drifts", "_law_row"]) (sc := defScope (top 39)) (by decide +kernel))
          (fun _ _ _ _ _ => pg_name (i := 2) sc39.nd rfl (Or.inl rfl)) (fun _ _ _ _ _ => pts_nil)
          (fun _ _ _ _ _ => pe_callB (r := rLenS K) call_len_seq (by rfl) T.len PySem.boot_len (pa_cons (pv 2) pa_nil)))
          (pe_op op_rep (pe_lst (pa_cons (pe_int) pa_nil)) (pe_callB call_len_seq (by rfl) T.len PySem.boot_len (pa_cons (pv 0) pa_nil))) (nomark _))
      (pe_one (pe_cmpR (op_eqD hr.units) (pe_lc (own := [("_law_row", 2)]) (g := gName 2) (tt := tYes) rfl sc39.nd
          (pi_tup (pv 1)) (blkOk_by (own := [("_law_row", 2)]) (N := ["_law_looks", "_law_drifts", "_law_row"]) (sc := defScope (top 39)) (by decide +kernel))
          (fun _ _ _ _ _ => pg_name (i := 2) sc39.nd rfl (Or.inl rfl)) (fun _ _ _ _ _ => pts_nil)
          (fun _ _ _ _ _ => pe_callB (r := rLenS K) call_len_seq (by rfl) T.len PySem.boot_len (pa_cons (pv 2) pa_nil)))
          (pe_op op_rep (pe_lst (pa_cons (pe_int) pa_nil)) (pe_callB call_len_seq (by rfl) T.len PySem.boot_len (pa_cons (pv 0) pa_nil))) (nomark _)))))), ?_⟩
    refine ⟨_, rfl, al, rfl, ⟨_, SqT.of hal⟩, fun D nD => ?_⟩
    refine lc_tup (K := K) (a := al) (xs := xl) (fun i H' => LcInv IsV (fun i => V.int ((LL.getD i []).length : Int)) H D i H') (lcinv_0 nD) (fun i H' _ p => SqT.of (p.1 _ _ hal)) (fun i x H' hx p => ?_) (fun H1 ⟨s1, vs, hD, pr⟩ => ?_)
    · obtain ⟨r, hr, b, ys, rfl, hb, py⟩ := paired_get pl hx
      have hi := (List.getElem?_eq_some_iff.mp hx).1
      refine ⟨rfl, yes_of ⟨_, rfl, b, ys, rfl, .inr (SqT.of (p.1 _ _ hb)), lcinv_step kt_is nD (by omega) p (Same.refl H') ?_⟩⟩
      show V.int (ys.length : Int) = V.int ((LL.getD i []).length : Int)
      rw [paired_len py, getD_at hr]
    have hD2 : H1 D = some (.lst ((LL.map fun r => (r.length : Int)).map V.int)) := by
      rw [hD, paired_is pr, ll, ← map_range_getD (fun r : List (Int × Int) => (r.length : Int)) [], List.map_map]
      rfl
    refine ⟨(by show 1 ≤ sizeLine; decide), fun q nq => ?_⟩
    refine ⟨_, rfl, al, xl, rfl, .inr (SqT.of ((s1.trans (same_new nq)) _ _ hal)), q, _, [V.int 1], rfl, rfl, upd_same, by omega, by omega, ?_, fun t nt => ?_⟩
    · rw [Int.toNat_natCast, sizeLine_eq]
      show 1 * xl.length ≤ _
      omega
    rw [Int.toNat_natCast, rep_one, ll]
    have s2 := (s1.trans (same_new (o := .lst [V.int 1]) nq)).trans (same_new (o := .lst ((List.replicate LL.length 1).map V.int)) nt)
    refine eq_list (xs := LL.map fun r => (r.length : Int)) (ys := List.replicate LL.length 1) (((same_new nq).trans (same_new nt)) _ _ hD2) upd_same ⟨_, rfl, ?_⟩
    have e1 : decide ((LL.map fun r => (r.length : Int)) = List.replicate LL.length 1) = LL.all (fun r => decide (r.length = 1)) := all_len LL 1
    rw [e1]
    cases e : LL.all (fun r => decide (r.length = 1)) with
    | false =>
      refine iteF ?_
      refine bl_of (Q := Q) ?_ (k _ s2)
      unfold isSure
      rw [e]
      rfl
    | true =>
      refine iteT ?_
      refine ⟨_, rfl, ad, rfl, ⟨_, SqT.of (s2 _ _ had)⟩, fun D3 nD3 => ?_⟩
      refine lc_tup (K := K) (a := ad) (xs := xd) (fun i H' => LcInv IsV (fun i => V.int ((DD.getD i []).length : Int)) _ D3 i H') (lcinv_0 nD3) (fun i H' _ p => SqT.of (p.1 _ _ (s2 _ _ had))) (fun i x H' hx p => ?_) (fun H3 ⟨s3, vs3, hD3, pr3⟩ => ?_)
      · obtain ⟨r, hr, b, rfl, hb⟩ := paired_get pd hx
        have hi := (List.getElem?_eq_some_iff.mp hx).1
        refine ⟨rfl, yes_of ⟨_, rfl, b, _, rfl, .inr (SqT.of ((s2.trans p.1) _ _ hb)), lcinv_step kt_is nD3 (by omega) p (Same.refl H') ?_⟩⟩
        show V.int ((r.map V.int).length : Int) = V.int ((DD.getD i []).length : Int)
        rw [List.length_map, getD_at hr]
      have hD4 : H3 D3 = some (.lst ((DD.map fun r => (r.length : Int)).map V.int)) := by
        rw [hD3, paired_is pr3, ld, ← map_range_getD (fun r : List Int => (r.length : Int)) [], List.map_map]
        rfl
      have s23 := s2.trans s3
      refine ⟨(by show 1 ≤ sizeLine; decide), fun q2 nq2 => ?_⟩
      refine ⟨_, rfl, al, xl, rfl, .inr (SqT.of ((s23.trans (same_new nq2)) _ _ hal)), q2, _, [V.int 0], rfl, rfl, upd_same, by omega, by omega, ?_, fun t2 nt2 => ?_⟩
      · rw [Int.toNat_natCast, sizeLine_eq]
        show 1 * xl.length ≤ _
        omega
      rw [Int.toNat_natCast, rep_one, ll, ← n1]
      have s4 := (s23.trans (same_new (o := .lst [V.int 0]) nq2)).trans (same_new (o := .lst ((List.replicate DD.length 0).map V.int)) nt2)
      refine eq_list (xs := DD.map fun r => (r.length : Int)) (ys := List.replicate DD.length 0) (((same_new nq2).trans (same_new nt2)) _ _ hD4) upd_same ?_
      have e2 : decide ((DD.map fun r => (r.length : Int)) = List.replicate DD.length 0) = DD.all (fun r => decide (r.length = 0)) := all_len DD 0
      rw [e2]
      refine bl_of (Q := Q) ?_ (k _ s4)
      unfold isSure
      rw [e]
      rfl
end
end K9

/-! a kind that is nearly sure -/
namespace K9
open PySem PySem.Spec PyProof.Rows L2
/-! ### parts and sums of tuples of anything -/
theorem paired_take {α β : Type} {R : α → β → Prop} : ∀ {xs : List α} {ys : List β} (n : Nat), Paired R xs ys → Paired R (xs.take n) (ys.take n)
  | _, _, 0, _ => .nil
  | _, _, _ + 1, .nil => .nil
  | _, _, n + 1, .cons r t => .cons r (paired_take n t)
theorem paired_drop {α β : Type} {R : α → β → Prop} : ∀ {xs : List α} {ys : List β} (n : Nat), Paired R xs ys → Paired R (xs.drop n) (ys.drop n)
  | _, _, 0, r => r
  | _, _, _ + 1, .nil => .nil
  | _, _, n + 1, .cons _ t => paired_drop n t
theorem paired_app {α β : Type} {R : α → β → Prop} : ∀ {xs xs' : List α} {ys ys' : List β}, Paired R xs ys → Paired R xs' ys' → Paired R (xs ++ xs') (ys ++ ys')
  | _, _, _, _, .nil, r => r
  | _, _, _, _, .cons r t, s => .cons r (paired_app t s)
section
variable {α : Type} {R : Hp → V → α → Prop} {K : PySem.W.Frag} {H : Hp} {Q : VK} {u v : V} {xs ys : List α}
theorem cat_tup (kR : KeepsT R) (hu : TupOf R H u xs) (hv : TupOf R H v ys) (hl : xs.length + ys.length ≤ 1000) (k : ∀ z H', Same H H' → TupOf R H' z (xs ++ ys) → Q z H') : rCatA K u v H Q := by
  obtain ⟨a, us, rfl, ha, pa⟩ := hu
  obtain ⟨b, ws, rfl, hb, pb⟩ := hv
  have la := paired_len pa
  have lb := paired_len pb
  refine ⟨a, b, us, ws, rfl, rfl, SqT.of ha, SqT.of hb, Nat.le_of_lt (line_of (by omega)), fun e => ?_, fun _ e => ?_, fun _ _ p np => ?_⟩
  · subst e
    cases pa
    exact k _ H (Same.refl H) ⟨b, ws, rfl, hb, pb⟩
  · subst e
    cases pb
    rw [List.append_nil] at k
    exact k _ H (Same.refl H) ⟨a, us, rfl, ha, pa⟩
  · refine k _ _ (same_new np) ⟨p, _, rfl, upd_same, paired_app (Paired.mapP pa fun _ _ z => kR _ _ _ _ (Tups.of (same_new np)) z) (Paired.mapP pb fun _ _ z => kR _ _ _ _ (Tups.of (same_new np)) z)⟩
theorem part_tup {lo hi : Option Int} (kR : KeepsT R) (hu : TupOf R H u xs) (k : ∀ z H', Same H H' → TupOf R H' z ((xs.drop (HT.sIx xs.length 0 lo)).take (HT.sIx xs.length xs.length hi - HT.sIx xs.length 0 lo)) → Q z H') : rSlA K u lo hi H Q := by
  obtain ⟨a, us, rfl, ha, pa⟩ := hu
  have la := paired_len pa
  refine ⟨a, us, rfl, SqT.of ha, fun e => ?_, fun _ p np => ?_⟩
  · rw [la] at e
    refine k _ H (Same.refl H) ⟨a, us, rfl, ha, ?_⟩
    rw [e.1, e.2, List.drop_zero, Nat.sub_zero, List.take_length]
    exact pa
  · refine k _ _ (same_new np) ⟨p, _, rfl, upd_same, ?_⟩
    unfold cutV
    rw [la]
    exact paired_take _ (paired_drop _ (Paired.mapP pa fun _ _ z => kR _ _ _ _ (Tups.of (same_new np)) z))
theorem part_from {l : Nat} (kR : KeepsT R) (hu : TupOf R H u xs) (k : ∀ z H', Same H H' → TupOf R H' z (xs.drop l) → Q z H') : rSlA K u (some (l : Int)) none H Q := by
  refine part_tup kR hu fun z H' s h => k z H' s ?_
  rw [HT.sIx_nat, HT.sIx_none] at h
  have e : (xs.drop (min l xs.length)).take (xs.length - min l xs.length) = xs.drop l := by
    rw [List.take_of_length_le (by rw [List.length_drop]; exact Nat.le_refl _)]
    by_cases q : l ≤ xs.length
    · rw [Nat.min_eq_left q]
    · rw [Nat.min_eq_right (by omega), List.drop_eq_nil_of_le (by omega), List.drop_eq_nil_of_le (by omega)]
  rw [e] at h
  exact h
theorem part_to {l : Nat} (kR : KeepsT R) (hu : TupOf R H u xs) (k : ∀ z H', Same H H' → TupOf R H' z (xs.take l) → Q z H') : rSlA K u none (some (l : Int)) H Q := by
  refine part_tup kR hu fun z H' s h => k z H' s ?_
  rw [HT.sIx_nat, HT.sIx_none, List.drop_zero, Nat.sub_zero] at h
  have e : xs.take (min l xs.length) = xs.take l := by
    by_cases q : l ≤ xs.length
    · rw [Nat.min_eq_left q]
    · rw [Nat.min_eq_right (by omega), List.take_of_length_le (by omega), List.take_of_length_le (by omega)]
  rw [e] at h
  exact h
end
/-- one place changed -/
def put1 {α : Type} (xs : List α) (i : Nat) (x : α) : List α := xs.take i ++ [x] ++ xs.drop (i + 1)
theorem put1_len {α : Type} {xs : List α} {i : Nat} {x : α} (h : i < xs.length) : (put1 xs i x).length = xs.length := by
  unfold put1
  rw [List.length_append, List.length_append, List.length_take, List.length_drop, List.length_singleton]
  omega
theorem put1_mem {α : Type} {xs : List α} {i : Nat} {x y : α} (h : y ∈ put1 xs i x) : y = x ∨ y ∈ xs := by
  unfold put1 at h
  rcases List.mem_append.mp h with h | h
  · rcases List.mem_append.mp h with h | h
    · exact .inr (List.mem_of_mem_take h)
    · exact .inl (by simpa using h)
  · exact .inr (List.mem_of_mem_drop h)
/-- the more row: one or two pairs, in order -/
theorem more_row {n : Int} {ks L' : List (Addr × List Int)} {H : Hp} (hn : n ≤ 8) (hk : ∀ p ∈ ks, ∃ q : Int × Int, p.2 = [q.1, q.2] ∧ H p.1 = some (.tup [.int q.1, .int q.2]) ∧ OkOut n q) (hs : ∀ p ∈ L', p ∈ ks) (hl : 1 ≤ L'.length) (hl2 : L'.length ≤ 4)
    (nd : (L'.map (·.2)).Nodup) (pw : L'.Pairwise (fun q r => TS.code 64 q.2 ≤ TS.code 64 r.2)) : ∃ row, Paired (PairV H) (L'.map fun q => V.ref q.1) row ∧ OkRow n row := by
  let f : Addr × List Int → Int × Int := fun p => (p.2.getD 0 0, p.2.getD 1 0)
  have hf : ∀ p ∈ L', p.2 = [(f p).1, (f p).2] ∧ H p.1 = some (.tup [.int (f p).1, .int (f p).2]) ∧ OkOut n (f p) := fun p hp => by
    obtain ⟨q, e, h, o⟩ := hk p (hs p hp)
    have ef : f p = q := by
      show (p.2.getD 0 0, p.2.getD 1 0) = q
      rw [e]
      rfl
    rw [ef]
    exact ⟨e, h, o⟩
  refine ⟨L'.map f, ?_, by rw [List.length_map]; exact hl, by rw [List.length_map]; exact hl2, fun p hp => ?_, fun i p q hp hq => ?_⟩
  · have : ∀ l : List (Addr × List Int), (∀ p ∈ l, H p.1 = some (.tup [.int (f p).1, .int (f p).2])) → Paired (PairV H) (l.map fun q => V.ref q.1) (l.map f) := fun l => by
      induction l with
      | nil => exact fun _ => .nil
      | cons a l ih => exact fun h => .cons ⟨a.1, rfl, h a List.mem_cons_self⟩ (ih fun p hp => h p (List.mem_cons_of_mem _ hp))
    exact this L' fun p hp => (hf p hp).2.1
  · obtain ⟨a, ha, rfl⟩ := List.mem_map.mp hp
    exact (hf a ha).2.2
  · rw [List.getElem?_map] at hp hq
    obtain ⟨a, ha, rfl⟩ : ∃ a, L'[i]? = some a ∧ f a = p := by
      cases e : L'[i]? with
      | none => rw [e] at hp; cases hp
      | some a => rw [e] at hp; exact ⟨a, rfl, Option.some.inj hp⟩
    obtain ⟨b, hb, rfl⟩ : ∃ b, L'[i + 1]? = some b ∧ f b = q := by
      cases e : L'[i + 1]? with
      | none => rw [e] at hq; cases hq
      | some b => rw [e] at hq; exact ⟨b, rfl, Option.some.inj hq⟩
    obtain ⟨h1, e1⟩ := List.getElem?_eq_some_iff.mp ha
    obtain ⟨h2, e2⟩ := List.getElem?_eq_some_iff.mp hb
    have c := List.pairwise_iff_getElem.mp pw i (i + 1) h1 h2 (Nat.lt_succ_self i)
    rw [e1, e2] at c
    obtain ⟨a1, a2, a3⟩ := hf a (List.mem_of_getElem? ha)
    obtain ⟨b1, b2, b3⟩ := hf b (List.mem_of_getElem? hb)
    have ne : ([(f a).1, (f a).2] : List Int) ≠ [(f b).1, (f b).2] := fun z => by
      rw [← a1, ← b1] at z
      have n1 := (List.getElem?_eq_some_iff.mp (show (L'.map (·.2))[i]? = some a.2 by rw [List.getElem?_map, ha]; rfl))
      have n2 := (List.getElem?_eq_some_iff.mp (show (L'.map (·.2))[i + 1]? = some b.2 by rw [List.getElem?_map, hb]; rfl))
      obtain ⟨m1, q1⟩ := n1
      obtain ⟨m2, q2⟩ := n2
      have z2 := List.pairwise_iff_getElem.mp nd i (i + 1) m1 m2 (Nat.lt_succ_self i)
      exact z2 (by rw [q1, q2, z])
    rw [a1, b1] at c
    obtain ⟨a4, a5, a6, a7⟩ := a3
    obtain ⟨b4, b5, b6, b7⟩ := b3
    have r := pair_lt c ne ⟨a4, by omega⟩ ⟨a6, by omega⟩ ⟨b4, by omega⟩ ⟨b6, by omega⟩
    show (if (f a).1 = (f b).1 then (if (f a).2 = (f b).2 then false else decide ((f a).2 < (f b).2)) else decide ((f a).1 < (f b).1)) = true
    rcases r with r | ⟨r1, r2⟩
    · rw [if_neg (by omega)]
      exact decide_eq_true r
    · rw [if_pos r1, if_neg (by omega)]
      exact decide_eq_true r2
section
variable {P : Program} {w : World} {K : PySem.W.Frag} {mg : Str → Option Value} {base : Heap}
def spNearly : Sp := fun vs H Q _ => ∃ (p : Addr), vs = [.ref p] ∧ PoolAt H p (fun _ => False) ∧ ∀ (l : Addr) (vl vd vp : V) (LL : List (List (Int × Int))) (DD : List (List Int)) (PP : List (Int × List Int)) (H' : Hp), Sam p H H' → H' l = some (.lst [vl, vd, vp]) → LooksV H' vl LL → DriftsV H' vd DD → PutsV H' vp PP → OkKind LL DD PP → Q (.ref l) H'
abbrev n40 : List Str := ["_law_pool_here", "_law_looks", "_law_drifts", "_law_puts", "_law_at", "_law_change", "_law_more"]
theorem sc40 : FnScope n40 ["_law_pool_here"] (defScope (top 40)) := ⟨rfl, rfl, rfl, by decide +kernel, rfl, by decide +kernel, by decide +kernel⟩
theorem cal_nearly (F : Known K mg "_law_nearly_sure" (top 40)) (T : Free mg) (cd : Cal P w K mg base 1 "_law_draw" spDraw) (cp : Cal P w K mg base 3 "_law_kind_parts" spParts) : Cal P w K mg base 4 "_law_nearly_sure" spNearly := by
  refine cal_of F sc40 (fun _ _ _ _ _ _ us hl => match us, hl with | [_], _ => rfl) (fun vs H Q E h => ?_) (fun f cdv A outer s H vs Q E hr h => ?_)
  · obtain ⟨p, rfl, _⟩ := h
    rfl
  · obtain ⟨p, rfl, hP, k⟩ := h
    refine ⟨_, (pss_cons (ps_asg (C8.pe_c cp hr (by decide) (by rfl) (pa_cons (pv 0) (pa_cons (pe_bl) pa_nil))) (pg_lst rfl (pgs_cons (pg_name (i := 1) sc40.nd rfl (Or.inl rfl)) (pgs_cons (pg_name (i := 2) sc40.nd rfl (Or.inl rfl)) (pgs_cons (pg_name (i := 3) sc40.nd rfl (Or.inl rfl)) pgs_nil))))) (pss_cons (ps_set (i := 4) sc40.nd rfl (Or.inl rfl) (C8.pe_c cd hr (by decide) (by rfl) (pa_cons (pv 0) (pa_cons (pe_callB call_len_seq (by rfl) T.len PySem.boot_len (pa_cons (pv 1) pa_nil)) pa_nil)))) (pss_cons (ps_set (i := 5) sc40.nd rfl (Or.inl rfl) (C8.pe_c cd hr (by decide) (by rfl) (pa_cons (pv 0) (pa_cons (pe_int) pa_nil)))) (C8.pss_cut (ps_if (pt_cmpR op_eq (pv 5) pe_int (nomark _))
        (pss_cons (ps_set (i := 6) sc40.nd rfl (Or.inl rfl) (pe_callTy call_tuple_of (by rfl) T.tuple (by decide +kernel) (pa_cons (pe_callB (cr_sortedT rfl) (by rfl) T.sorted (by decide +kernel) (pa_cons (pe_callTy (cr_setOfT rfl hr.units) (by rfl) T.set (by decide +kernel)
            (pa_cons (pe_lst (pa_cons (pe_ix ix_tup (pe_ix ix_tup (pv 1) (pv 4) (fun _ _ => rfl)) pe_int (fun _ _ => rfl)) (pa_cons (pe_tup (pa_cons (C8.pe_c cd hr (by decide) (by rfl) (pa_cons (pv 0) (pa_cons (pe_int) pa_nil))) (pa_cons (C8.pe_c cd hr (by decide) (by rfl) (pa_cons (pv 0) (pa_cons (pe_callB call_len_seq (by rfl) T.len PySem.boot_len (pa_cons (pv 1) pa_nil)) pa_nil))) pa_nil))) pa_nil))) pa_nil)) pa_nil)) pa_nil))) (pss_one (ps_set (i := 1) sc40.nd rfl (Or.inl rfl) (pe_op op_catA (pe_op op_catA (pe_slice sl_tupA (pv 1) po_none (po_some (pv 4))) (pe_tup (pa_cons (pv 6) pa_nil))) (pe_slice sl_tupA (pv 1) (po_some (pe_op op_add (pv 4) pe_int)) po_none))))) pss_nil) (C8.pss_cut (ps_if (pt_cmpR op_eq (pv 5) pe_int (nomark _))
        (pss_one (ps_set (i := 2) sc40.nd rfl (Or.inl rfl) (pe_op op_catA (pe_op op_catA (pe_slice sl_tupA (pv 2) po_none (po_some (pv 4))) (pe_tup (pa_cons (pe_tup (pa_cons (C8.pe_c cd hr (by decide) (by rfl) (pa_cons (pv 0) (pa_cons (pe_callB call_len_seq (by rfl) T.len PySem.boot_len (pa_cons (pv 1) pa_nil)) pa_nil))) pa_nil)) pa_nil))) (pe_slice sl_tupA (pv 2) (po_some (pe_op op_add (pv 4) pe_int)) po_none)))) pss_nil) (pss_one (ps_ret (pe_lst (pa_cons (pv 1) (pa_cons (pv 2) (pa_cons (pv 3) pa_nil))))))))))), ?_⟩
    refine ⟨_, rfl, p, rfl, hP, fun l L PP H1 B => ?_⟩
    obtain ⟨hP1, s1, ⟨vl, vd, vp, hl, hvl, hvd, hvp⟩, l1, l8, okq, p4, okp⟩ := B
    refine ⟨l, _, rfl, SqL.of hl, rfl, _, _, rfl, _, _, rfl, _, _, rfl, rfl, ?_⟩
    obtain ⟨al, xl, rfl, hal, pl⟩ := id hvl
    have lxl := paired_len pl
    rw [List.length_map] at lxl
    have nS : ∀ (G : Hp) (a : Addr), (fun _ : Addr => False) a → G a ≠ none := fun _ _ e => e.elim
    refine ⟨_, rfl, _, rfl, al, xl, rfl, .inr (SqT.of hal), p, _, _, rfl, hP1, nS _, by omega, by omega, fun at_ H2 at0 at1 hP2 s2 => ?_⟩
    rw [lxl] at at1
    obtain ⟨j, ej⟩ : ∃ j : Nat, at_ = (j : Int) := ⟨at_.toNat, by omega⟩
    subst ej
    have hj : j < L.length := by omega
    have t2 := hP1.tups s2
    refine ⟨_, rfl, p, _, _, rfl, hP2, nS _, by decide, by decide, fun ch H3 ch0 ch1 hP3 s3 => ?_⟩
    have t3 := hP2.tups s3
    have t23 := t2.trans t3
    have s03 : Sam p H H3 := (s1.trans s2).trans s3
    have hvl3 := kt_looks _ _ _ _ t23 hvl
    have hvd3 := kt_drifts _ _ _ _ t23 hvd
    have hvp3 := kt_puts _ _ _ _ t23 hvp
    -- the first change
    refine ⟨fun σ H' => ∃ (ul : V) (v6 : Option V) (LL : List (List (Int × Int))), σ = [some (.ref p), some ul, some vd, some vp, some (.int (j : Int)), some (.int ch), v6] ∧ PoolAt H' p (fun _ => False) ∧ Sam p H3 H' ∧ LooksV H' ul LL ∧ LL.length = L.length ∧ ∀ r ∈ LL, OkRow (L.length : Int) r, ?_, ?_⟩
    · have ok1 : ∀ r ∈ L.map (fun q => [q]), OkRow (L.length : Int) r := fun r hr => by
        obtain ⟨q, hq, rfl⟩ := List.mem_map.mp hr
        refine ⟨Nat.le_refl _, by show 1 ≤ 4; decide, fun z hz => ?_, asc_one q⟩
        have e : z = q := by simpa using hz
        rw [e]
        exact okq q hq
      refine ⟨_, rfl, rfl, _, rfl, ite2 (fun _ => ?_) (fun _ => ⟨.ref al, none, _, rfl, hP3, Sam.refl p _, hvl3, by rw [List.length_map], ok1⟩)⟩
      obtain ⟨al', xl', e0, hal3, pl3⟩ := hvl3
      cases e0
      have lxl3 := paired_len pl3
      rw [List.length_map] at lxl3
      obtain ⟨q0, hq0⟩ : ∃ q0, L[j]? = some q0 := ⟨L[j], List.getElem?_eq_getElem hj⟩
      obtain ⟨x, hx, b, ys, rfl, hb, py⟩ := paired_get' pl3 (show (L.map fun q => [q])[j]? = some [q0] by rw [List.getElem?_map, hq0]; rfl)
      cases py with
      | cons y1 y2 =>
        cases y2
        obtain ⟨c, rfl, hc⟩ := y1
        refine ⟨_, rfl, _, rfl, al, xl', _, _, rfl, rfl, SqT.of hal3, at_of (j := j) rfl hx, b, _, _, _, rfl, rfl, SqT.of hb, at_of (j := 0) rfl rfl, ?_⟩
        refine ⟨_, rfl, p, 10, _, rfl, hP3, nS _, by decide, by decide, fun x H4 x0 x1 hP4 s4 => ?_⟩
        have t4 := hP3.tups s4
        refine ⟨_, rfl, _, rfl, al, xl', rfl, .inr (SqT.of (t4 _ _ hal3)), p, _, _, rfl, hP4, nS _, by omega, by omega, fun y H5 y0 y1 hP5 s5 => ?_⟩
        have t5 := hP4.tups s5
        have t35 := t4.trans t5
        refine ⟨(by show 2 ≤ sizeLine; decide), fun m nm => ?_⟩
        refine ⟨(by show 2 ≤ sizeLine; decide), fun g ng => ?_⟩
        have h6m : upd H5 m (.tup [.int x, .int y]) m = some (.tup [.int x, .int y]) := upd_same
        have s6 : Same H5 (upd (upd H5 m (.tup [.int x, .int y])) g (.lst [.ref c, .ref m])) := (same_new nm).trans (same_new ng)
        have s6b : Same (upd H5 m (.tup [.int x, .int y])) (upd (upd H5 m (.tup [.int x, .int y])) g (.lst [.ref c, .ref m])) := same_new ng
        let ks : List (Addr × List Int) := [(c, [q0.1, q0.2]), (m, [x, y])]
        have okq0 := okq q0 (List.mem_of_getElem? hq0)
        have okxy : OkOut (L.length : Int) (x, y) := ⟨x0, by show x ≤ 9; omega, y0, by show y < (L.length : Int); omega⟩
        have hks : ∀ q ∈ ks, ∃ z : Int × Int, q.2 = [z.1, z.2] ∧ upd (upd H5 m (.tup [.int x, .int y])) g (.lst [.ref c, .ref m]) q.1 = some (.tup [.int z.1, .int z.2]) ∧ OkOut (L.length : Int) z := fun q hq => by
          rcases List.mem_cons.mp hq with rfl | hq
          · exact ⟨q0, rfl, s6 _ _ (t35 _ _ hc), okq0⟩
          · have e : q = (m, [x, y]) := by simpa using hq
            subst e
            exact ⟨(x, y), rfl, s6b _ _ h6m, okxy⟩
        have hkt : ∀ {G : Hp}, Same (upd (upd H5 m (.tup [.int x, .int y])) g (.lst [.ref c, .ref m])) G → ∀ q ∈ ks, SqT K G q.1 (q.2.map V.int) := fun {G} sg q hq => by
          obtain ⟨z, e, h, _⟩ := hks q hq
          rw [e]
          exact SqT.of (sg _ _ h)
        refine ⟨g, ks, rfl, SqL.of upd_same, hkt (Same.refl _), by show 2 < 64; decide, fun d Ls nd hLs hall => ?_⟩
        have s7 := same_new (o := SetTO P w d Ls) nd
        refine ⟨d, Ls, 2, 64, rfl, upd_same, fun q hq => hkt s7 q (hLs q hq), by decide, fun q hq => ?_, fun L' u pm nd' l64 pw nu => ?_⟩
        · obtain ⟨z, e, _, o1, o2, o3, o4⟩ := hks q (hLs q hq)
          rw [e]
          refine ⟨rfl, fun n hn => ?_⟩
          have hn2 : n = z.1 ∨ n = z.2 := by simpa using hn
          rcases hn2 with rfl | rfl <;> constructor <;> omega
        have s8 := s7.trans (same_new (o := .lst (L'.map fun q => V.ref q.1)) nu)
        refine ⟨u, _, rfl, .inl ⟨SqL.of upd_same, fun e ne => ?_⟩⟩
        have s9 := s8.trans (same_new (o := .tup (L'.map fun q => V.ref q.1)) ne)
        have lL1 : 1 ≤ L'.length := by
          have z := hall (c, [q0.1, q0.2]) (by simp [ks])
          obtain ⟨q, hq, _⟩ := List.mem_map.mp z
          have z2 := List.length_pos_of_mem hq
          rw [pm.length_eq]
          omega
        have lL2 : L'.length ≤ 4 := by
          have z := (List.Nodup.length_le_of_subset nd' (l₂ := ks.map (·.2)) fun v hv => by
            obtain ⟨q, hq, rfl⟩ := List.mem_map.mp hv
            exact List.mem_map.mpr ⟨q, hLs q (pm.mem_iff.mp hq), rfl⟩)
          rw [List.length_map] at z
          have z2 : (ks.map (·.2)).length = 2 := rfl
          omega
        obtain ⟨row, prow, okrow⟩ := more_row (n := (L.length : Int)) (by omega) hks (fun q hq => hLs q (pm.mem_iff.mp hq)) lL1 lL2 nd' pw
        have s69 := s6.trans s9
        have hrow := kt_row _ _ _ _ (Tups.of (Same.refl _)) (show RowV _ (V.ref e) row from ⟨e, _, rfl, upd_same, Paired.mapP prow fun _ _ z => kt_pair _ _ _ _ (Tups.of s9) z⟩)
        have hvl9 := kt_looks _ _ _ _ (t35.trans (Tups.of s69)) (show LooksV H3 (V.ref al) (L.map fun q => [q]) from ⟨al, xl', rfl, hal3, pl3⟩)
        refine ⟨_, rfl, _, rfl, _, rfl, part_to (l := j) kt_row hvl9 fun z1 G1 r1 hz1 => ?_⟩
        refine ⟨_, rfl, (by show 1 ≤ sizeLine; decide), fun m2 nm2 => ?_⟩
        have r2 := same_new (o := .tup [V.ref e]) nm2
        refine cat_tup (xs := (L.map fun q => [q]).take j) (ys := [row]) kt_row (kt_looks _ _ _ _ (Tups.of r2) hz1) ⟨m2, _, rfl, upd_same, .cons (kt_row _ _ _ _ (Tups.of (r1.trans r2)) hrow) .nil⟩ (by rw [List.length_take, List.length_map, List.length_singleton]; omega) fun z3 G3 r3 hz3 => ?_
        have r13 := (r1.trans r2).trans r3
        refine ⟨_, rfl, _, rfl, _, _, rfl, rfl, _, rfl, np_of (part_from (l := j + 1) kt_row (kt_looks _ _ _ _ (Tups.of r13) hvl9) fun z4 G4 r4 hz4 => ?_)⟩
        refine cat_tup kt_row (kt_looks _ _ _ _ (Tups.of r4) hz3) hz4 (by simp only [List.length_append, List.length_take, List.length_drop, List.length_map, List.length_singleton]; omega) fun z5 G5 r5 hz5 => ?_
        have sEnd := ((s69.trans r13).trans r4).trans r5
        refine ⟨z5, some (.ref e), put1 (L.map fun q => [q]) j row, rfl, hP5.keep sEnd, ((s4.trans s5).trans (Sam.of sEnd)), hz5, ?_, fun r hr => ?_⟩
        · rw [put1_len (by rw [List.length_map]; exact hj), List.length_map]
        · rcases put1_mem hr with rfl | hr
          · exact okrow
          · exact ok1 r hr
    -- the second change
    rintro σ H4 ⟨ul, v6, LL, rfl, hP4, s34, hul, lLL, okLL⟩
    have t34 := hP3.tups s34
    have s04 := s03.trans s34
    have hvd4 := kt_drifts _ _ _ _ t34 hvd3
    have hvp4 := kt_puts _ _ _ _ t34 hvp3
    obtain ⟨au, xu, rfl, hau, pu⟩ := id hul
    have lxu := paired_len pu
    refine ⟨fun σ H' => ∃ (ud : V) (DD : List (List Int)), σ = [some (.ref p), some (.ref au), some ud, some vp, some (.int (j : Int)), some (.int ch), v6] ∧ PoolAt H' p (fun _ => False) ∧ Sam p H4 H' ∧ DriftsV H' ud DD ∧ DD.length = L.length ∧ ∀ r ∈ DD, Sts (L.length : Int) r, ?_, ?_⟩
    · have ok2 : ∀ r ∈ List.replicate L.length ([] : List Int), Sts (L.length : Int) r := fun r hr => by
        rw [(List.mem_replicate.mp hr).2]
        exact ⟨by show 0 ≤ 1000; decide, fun _ h => absurd h (List.not_mem_nil), fun i x y h => by simp at h⟩
      refine ⟨_, rfl, rfl, _, rfl, ite2 (fun _ => ?_) (fun _ => ⟨vd, _, rfl, hP4, Sam.refl p _, hvd4, by rw [List.length_replicate], ok2⟩)⟩
      refine ⟨_, rfl, _, rfl, _, rfl, part_to (l := j) kt_ints hvd4 fun z1 G1 r1 hz1 => ?_⟩
      refine ⟨_, rfl, _, rfl, au, xu, rfl, .inr (SqT.of (r1 _ _ hau)), p, _, _, rfl, hP4.keep r1, nS _, by omega, by omega, fun dr G2 d0 d1 hP5 s5 => ?_⟩
      have t5 := (hP4.keep r1).tups s5
      have t45 := (Tups.of r1).trans t5
      refine ⟨(by show 1 ≤ sizeLine; decide), fun m nm => ?_⟩
      have r2 := same_new (o := .tup [V.int dr]) nm
      refine ⟨(by show 1 ≤ sizeLine; decide), fun m2 nm2 => ?_⟩
      have r3 := same_new (o := .tup [V.ref m]) nm2
      have r23 := r2.trans r3
      refine cat_tup (xs := (List.replicate L.length ([] : List Int)).take j) (ys := [[dr]]) kt_ints (kt_drifts _ _ _ _ (t5.trans (Tups.of r23)) hz1) ⟨m2, _, rfl, upd_same, .cons (kt_ints _ _ _ _ (Tups.of r3) ⟨m, rfl, upd_same⟩) .nil⟩ (by rw [List.length_take, List.length_replicate, List.length_singleton]; omega) fun z3 G3 r4 hz3 => ?_
      have r24 := r23.trans r4
      have hvd9 := kt_drifts _ _ _ _ (t45.trans (Tups.of r24)) hvd4
      refine ⟨_, rfl, _, rfl, _, _, rfl, rfl, _, rfl, np_of (part_from (l := j + 1) kt_ints hvd9 fun z4 G4 r5 hz4 => ?_)⟩
      refine cat_tup kt_ints (kt_drifts _ _ _ _ (Tups.of r5) hz3) hz4 (by simp only [List.length_append, List.length_take, List.length_drop, List.length_replicate, List.length_singleton]; omega) fun z5 G5 r6 hz5 => ?_
      have sEnd := (r24.trans r5).trans r6
      refine ⟨z5, put1 (List.replicate L.length []) j [dr], rfl, hP5.keep sEnd, ((Sam.of r1).trans s5).trans (Sam.of sEnd), hz5, ?_, fun r hr => ?_⟩
      · rw [put1_len (by rw [List.length_replicate]; exact hj), List.length_replicate]
      · rcases put1_mem hr with rfl | hr
        · refine ⟨by show 1 ≤ 1000; decide, fun z hz => ?_, fun i x y h h2 => by simp at h2⟩
          have e : z = dr := by simpa using hz
          subst e
          exact ⟨d0, by omega⟩
        · exact ok2 r hr
    rintro σ H5 ⟨ud, DD, rfl, hP5, s45, hud, lDD, okDD⟩
    have t45 := hP4.tups s45
    refine ⟨_, rfl, _, rfl, _, rfl, (by show 3 ≤ sizeLine; decide), fun g ng => ?_⟩
    have s5 := same_new (o := .lst [.ref au, ud, vp]) ng
    have t5 := Tups.of s5
    refine k g _ _ _ LL DD PP _ ((s04.trans s45).trans (Sam.of s5)) upd_same (kt_looks _ _ _ _ (t45.trans t5) hul) (kt_drifts _ _ _ _ t5 hud) (kt_puts _ _ _ _ (t45.trans t5) hvp4) ?_
    rw [← lLL] at okLL okDD lDD okp
    exact ⟨by omega, by omega, okLL, lDD, okDD, p4, okp⟩
end
end K9

/-! the law -/
namespace K9
open PySem PySem.Spec PyProof.Rows L2 LamX
/-- the slots are as many as the names -/
theorem pss_len {X : Cx} {ss : List Stmt} {t : TS} (h : PSs X ss t) : PSs X ss (fun D σ H => σ.length = X.N.length → t D σ H) := ⟨fun pins s σ H D I q => h.run pins s σ H D I (q I.len)⟩
/-! ### what a call tells -/
abbrev n41 : List Str := ["_law_call", "_law_told"]
theorem sc41 : FnScope n41 ["_law_call"] (defScope (top 41)) := ⟨rfl, rfl, rfl, by decide +kernel, rfl, by decide +kernel, by decide +kernel⟩
def TTold2 (CS : Addr) : (XK → Hp → VK → Prop) → Hp → VK → Prop := fun tl H Q => ∀ Q2 : VK, (∀ v H', Q v H' → Q2 v H') → tl (fun cls _ H' => cls = .ref CS ∧ Q (.str "refused") H') H Q2
theorem told41 {X : Cx} {g : Addr} {cdg : Value} {CN : Addr} {q : Str} (EC : ErrC X.K X.mg CN) : GivesTo X n41 "_law_sure_told" (defScope (top 41)) g cdg (defBody (top 41)) "_law_call" q (TTold2 CN) := by
  intro f c' s H Q tl act hc h
  refine ⟨_, (pss_cons (ps_set (i := 1) sc41.nd rfl (Or.inl rfl) pe_non) (pss_cons (ps_try_only (X := (cxOf C8.CX0 X.prog X.w X.K X.mg X.base n41 "_law_sure_told" (defScope (top 41)) g cdg X.A X.stack s H C8.E0).nox) (c := .ref CN)
      (ts := fun a cls d D σ H => σ.length = 2 → tAsg (tC (.str "refused")) (gName 1) D σ H)
      (tb := fun W D σ H => ∃ Ech : XK, (∀ cls d σ' H', Ech cls d H' → W cls d σ' H') ∧ σ[0]? = some (some (.ref f)) ∧ H c' = some (CodeO c' q) ∧ tl Ech H (fun v H' => gName 1 v σ H' D.nx))
      rfl rfl ⟨rfl, rfl, .inl EC.mgc⟩ LamX.takes0 (fun W pn xe tk _ => ⟨fun pins s' σ H' D I h' => by
        obtain ⟨Ech, hW, h1, h2, h3⟩ := h'
        exact (pss_one (ps_set (i := 1) sc41.nd rfl (Or.inl rfl) (act W pn xe Ech _ _ tk hW))).run pins s' σ H' D I ⟨h1, h2, h3⟩⟩) (fun a oe cls d pn _ _ => pss_len ?_)) (pss_one (ps_ret (pv 1))))), ?_⟩
  · exact pss_one (ps_set (i := 1) sc41.nd rfl (Or.inl rfl) pe_str)
  refine ⟨fun cls _ H' => cls = .ref CN ∧ Q (.str "refused") H', fun cls d σ' H' h => ?_, rfl, hc, ?_⟩
  · obtain ⟨rfl, hq⟩ := h
    refine ⟨true, EC.exm, fun _ a _ hl => ?_, fun h => (nomatch h)⟩
    have hl : σ'.length = 2 := hl
    match σ', hl with
    | [x, y], _ => exact ⟨_, rfl, hq⟩
  · exact h _ fun v H' hq => ⟨v, rfl, hq⟩
/-! ### the law -/
theorem ok_heads {LL : List (List (Int × Int))} {DD : List (List Int)} {PP : List (Int × List Int)} (o : OkKind LL DD PP) (h : isSure LL DD = true) : Ok (heads LL) := fun p hp => by
  obtain ⟨r, hr, rfl⟩ := List.mem_map.mp hp
  obtain ⟨_, _, ok, _⟩ := o.rows r hr
  have l := sure_rows h r hr
  match r, l with
  | [q], _ =>
    obtain ⟨_, _, h3, h4⟩ := ok q (List.mem_singleton.mpr rfl)
    rw [heads_len]
    exact ⟨h3, h4⟩
theorem KindAt.ext {C : Addr} {H H' : Hp} {p : Addr} {LL : List (List (Int × Int))} {DD : List (List Int)} (s : ExtN H H') (h : KindAt C H p LL DD) : KindAt C H' p LL DD := by
  obtain ⟨dx, fs, vl, vd, h1, h2, h3, h4, h5, h6⟩ := h
  have t : Tups H H' := fun b xs e => s b _ e (fun ps z => by cases z)
  exact ⟨dx, fs, vl, vd, s _ _ h1 (fun ps z => by cases z), h2, h3, h4, kt_looks _ _ _ _ t h5, kt_drifts _ _ _ _ t h6⟩
theorem ExtN.tups {H H' : Hp} (s : ExtN H H') : Tups H H' := fun b xs e => s b _ e (fun ps z => by cases z)
theorem ExtN.same {H H' : Hp} (s : Same H H') : ExtN H H' := fun b o e _ => s b o e
theorem Tabs.same {T : List (Addr × Str)} {H H' : Hp} (t : Tabs T H) (s : Same H H') : Tabs T H' := t.ext fun b o e => s b o e
abbrev n42 : List Str := ["_law_script", "_law_pool_here", "_law_looks", "_law_drifts", "_law_puts", "_law_due", "_law_told", "_law_kind", "_law_standing"]
theorem sc42 : FnScope n42 ["_law_script"] (defScope (top 42)) := ⟨rfl, rfl, rfl, by decide +kernel, rfl, by decide +kernel, by decide +kernel⟩
/-- the lambda's name -/
def qLam : Str := (envOfC "law" (defScope (top 42)) 0 0 .none).qual ++ "<lambda>"
section
variable {P : Program} {w : World} {K : PySem.W.Frag} {mg : Str → Option Value} {base : Heap} {C CN : Addr}
def spLaw (K : PySem.W.Frag) (Pt : Addr) : Sp := fun vs H Q _ => ∃ (a : Addr) (ns : List Int), vs = [.ref a] ∧ SqL K H a (ns.map V.int) ∧ ns.length ≤ 63 ∧ H Pt = some (.tbl #[]) ∧ ∀ H', Q (.bl true) H'
theorem ok_law {f g c Pt : Addr} {fd fdg : FuncData} (F : FnP K "law" (top 42) f fd) (hc : fd.code = .ref c) (TB : TabB base mg c Pt) (T : Free mg) (EC : ErrC K mg CN) (cp : Cal P w K mg base 1 "_law_pool" (spPool K)) (cn : Cal P w K mg base 4 "_law_nearly_sure" spNearly)
    (mk : C8.Mak P w K mg base 6 "Kind" C (spInit C) []) (ci : Cal P w K mg base 1 "_law_is_sure" spLawIsSure) (cs : Cal P w K mg base 2 "sure" (spIsSure C)) (Fg : FnP K "_law_sure_told" (top 41) g fdg) (hg : mg "_law_sure_told" = some (.ref g))
    (cc : CalX P w K mg base 4 "class_of" (spClassOf C CN)) (cl : Cal P w K mg base 2 "_law_class" spLawClass) : FnOk P w K mg base C8.CX0 8 f fd ["_law_script"] (spLaw K Pt) := by
  obtain ⟨oc, od, dV, kV, doc, pm, an, cdv, ct, osl, rfl, lk, hcd, _, _⟩ := F.ex
  obtain rfl : cdv = .ref c := hc
  have Fb := Fg.bindsN (ps := ["_law_call"]) fun _ _ _ _ _ _ us hl => match us, hl with | [_], _ => rfl
  have Fk := Fg.kp
  obtain ⟨oc2, od2, dV2, kV2, doc2, pm2, an2, cdv2, ct2, osl2, rfl, lk2, hcd2, _, _⟩ := Fg.ex
  refine fn_of lk hcd sc42 (fun vs H Q E h => ?_) (fun A outer s H vs Q E hr h => ?_)
  · obtain ⟨a, ns, rfl, _⟩ := h
    rfl
  · obtain ⟨a, ns, rfl, hS, l63, hT, k⟩ := h
    refine ⟨_, PSs.nox (pss_cons (ps_set (i := 1) sc42.nd rfl (Or.inl rfl) (C8.pe_c cp hr (by decide) (by rfl) (pa_cons (pv 0) pa_nil))) (pss_cons (ps_asg (C8.pe_c cn hr (by decide) (by rfl) (pa_cons (pv 1) pa_nil)) (pg_lst rfl (pgs_cons (pg_name (i := 2) sc42.nd rfl (Or.inl rfl)) (pgs_cons (pg_name (i := 3) sc42.nd rfl (Or.inl rfl)) (pgs_cons (pg_name (i := 4) sc42.nd rfl (Or.inl rfl)) pgs_nil))))) (pss_cons (ps_set (i := 7) sc42.nd rfl (Or.inr rfl) (C8.pe_mk mk hr (by decide) (by rfl) (pa_cons (pv 2) (pa_cons (pv 3) (pa_cons (pv 4) pa_nil))))) (pss_cons (ps_set (i := 5) sc42.nd rfl (Or.inl rfl) (C8.pe_c ci hr (by decide) (by rfl) (pa_cons (pv 2) (pa_cons (pv 3) pa_nil)))) (pss_cons (ps_if (PW.pt (pw_or (pt_not (pt_val (pe_callB call_isi (by rfl) T.isinstance (by decide +kernel) (pa_cons (C8.pe_c cs hr (by decide) (by rfl) (pa_cons (pv 7) pa_nil)) (pa_cons (pe_bltn (v := .ty "bool") (by rfl) T.bool (by decide +kernel) rfl) pa_nil))))) (pw_or1 (pt_cmpR op_ne (C8.pe_c cs hr (by decide) (by rfl) (pa_cons (pv 7) pa_nil)) (pv 5) (nomark _))))) (pss_one (ps_ret pe_bl)) pss_nil) (pss_cons (ps_for PassesOwn.never rfl (pi_range1 (by rfl) T.range (pa_cons (pe_callB call_len_seq (by rfl) T.len PySem.boot_len (pa_cons (pv 2) pa_nil)) pa_nil)) (pg_name (i := 8) sc42.nd rfl (Or.inr rfl))
        (pss_cons (ps_set (i := 6) sc42.nd rfl (Or.inl rfl) (pe_lamcall (T := [(Pt, qLam)]) (Ng := n41) (k := 4) (by rfl) hg Fk lk2 hcd2 Fb sc41 rfl (Or.inl rfl) (told41 EC) TB rfl (by exact List.mem_singleton.mpr rfl) (fun p hp _ => by rw [List.mem_singleton.mp hp]; rfl) (hr.mono (by decide)) (lamS_by (by rfl)) rfl (fun _ _ _ _ _ => rfl)
            (fun A outer s H E f c' hr2 => pe_cX cc hr2 (by decide) (by rfl) (passes_call (takes_of rfl rfl rfl rfl) (fun _ _ _ _ h => h)) (pa_cons (pv 7) (pa_cons (pv 8) pa_nil))))) (pss_cons (ps_if (PW.pt (pw_and (pt_not (pt_val (pv 5))) (pw_and1 (pt_cmpR op_ne (pv 6) pe_str (nomark _))))) (pss_one (ps_ret pe_bl)) pss_nil) (pss_one (ps_if (PW.pt (pw_and (pt_val (pv 5)) (pw_and1 (PW.pt (pw_or (pt_not (pt_val (pe_callB call_isi (by rfl) T.isinstance (by decide +kernel) (pa_cons (pv 6) (pa_cons (pe_bltn (v := .ty "tuple") (by rfl) T.tuple (by decide +kernel) rfl) pa_nil))))) (pw_or1 (pt_cmpR (op_neD hr.units) (pv 6) (C8.pe_c cl hr (by decide) (by rfl) (pa_cons (pv 2) (pa_cons (pv 8) pa_nil))) (nomark _)))))))) (pss_one (ps_ret pe_bl)) pss_nil))))) (pss_one (ps_ret pe_bl)))))))), ?_⟩
    have hT0 : Tabs [(Pt, qLam)] H := fun p hp => by
      rw [List.mem_singleton.mp hp]
      exact TabS.nil hT
    refine ⟨_, rfl, a, ns, rfl, hS, l63, fun p H1 s1 p0 hP1 => ?_⟩
    have hT1 := Tabs.same hT0 s1
    have hPt1 : H1 Pt = some (.tbl #[]) := s1 _ _ hT
    have nPt : Pt ≠ p := ne_of_none hT p0
    refine ⟨_, rfl, p, rfl, hP1, fun l vl vd vp LL DD PP H2 s2 hl hvl hvd hvp ok => ?_⟩
    have hPt2 : H2 Pt = some (.tbl #[]) := s2 _ _ hPt1 nPt
    have hT2 : Tabs [(Pt, qLam)] H2 := fun p hp => by
      rw [List.mem_singleton.mp hp]
      exact TabS.nil hPt2
    have l1 := ok.l1
    have l8 := ok.l8
    have dl := ok.dl
    refine ⟨l, _, rfl, SqL.of hl, rfl, _, _, rfl, _, _, rfl, _, _, rfl, rfl, ?_⟩
    refine ⟨_, rfl, _, rfl, _, rfl, fun x dx x0 dx0 ne => ⟨H2, x, dx, vl, vd, vp, LL, DD, PP, rfl, (same_new dx0).trans (same_new (by rw [upd_ne (Ne.symm ne)]; exact x0)), x0, upd_same, hvl, hvd, hvp, ok, fun H3 s3 ka => ⟨rfl, ?_⟩⟩⟩
    have hT3 := Tabs.same hT2 s3
    refine ⟨_, rfl, _, rfl, vl, vd, LL, DD, rfl, keeps_looks _ _ _ _ s3 hvl, keeps_drifts _ _ _ _ s3 hvd, by omega, dl, fun H4 s4 => ?_⟩
    have s24 := s3.trans s4
    have hT4 := Tabs.same hT3 s4
    have ka4 := KindAt.keep s4 ka
    refine ⟨_, rfl, x, LL, DD, rfl, ka4, by omega, by omega, fun H5 s5 => ?_⟩
    refine ⟨_, _, _, _, true, rfl, .ty "bool", .base (.bl _), kit_ty (by decide +kernel), true, rfl, iteF ?_⟩
    have ka5 := KindAt.keep s5 ka4
    have s25 := s24.trans s5
    refine ⟨_, rfl, x, LL, DD, rfl, ka5, by omega, by omega, fun H6 s6 => ?_⟩
    have ka6 := KindAt.keep s6 ka5
    have s26 := s25.trans s6
    have hT6 := Tabs.same (Tabs.same hT4 s5) s6
    refine ⟨_, rfl, rfl, _, rfl, ?_⟩
    have e1 : (!decide (V.bl (isSure LL DD) = V.bl (isSure LL DD))) = false := by rw [decide_eq_true rfl]; rfl
    rw [e1]
    refine iteF ?_
    obtain ⟨al, xl, rfl, hal, pl⟩ := id (keeps_looks _ _ _ _ s26 hvl)
    have lxl := paired_len pl
    refine ⟨_, rfl, _, _, rfl, .inr (SqT.of hal), (xl.length : Int), rfl, by omega, by omega, ?_⟩
    rw [Int.toNat_natCast, lxl]
    have hvl6 : LooksV H6 (V.ref al) LL := ⟨al, xl, rfl, hal, pl⟩
    refine for_range (lo := 0) (n := LL.length) (fun i σ H' => ∃ (v6 v8 : Option V), σ = [some (.ref a), some (.ref p), some (.ref al), some vd, some vp, some (.bl (isSure LL DD)), v6, some (.ref x), v8] ∧ ExtN H6 H' ∧ Tabs [(Pt, qLam)] H')
      ⟨none, none, rfl, ExtN.refl _, hT6⟩ ?_ (fun σ H' _ => k H')
    rintro i σ G1 hi ⟨v6, v8, rfl, e1, hG1⟩
    have e0 : (0 : Int) + (i : Int) = (i : Int) := by omega
    rw [e0]
    refine ⟨hG1, fun G2 e2 hG2 => ?_⟩
    have e12 := e1.trans e2
    have ka2 := KindAt.ext e12 ka6
    have hvl2 := kt_looks _ _ _ _ (ExtN.tups e12) hvl6
    intro Q2 hQ2
    refine ⟨_, rfl, _, rfl, x, LL, DD, i, rfl, ka2, hi, l8, by omega, ok_heads ok, fun su r u G3 s3 hu pr => hQ2 _ _ ?_, fun su G3 s3 => ⟨rfl, ?_⟩⟩
    · have hl := heads_of (sure_rows su)
      have hG3 := Tabs.same hG2 s3
      have e13 := e12.trans (ExtN.same s3)
      refine ⟨_, rfl, _, rfl, ?_⟩
      rw [su]
      refine iteF ?_
      refine ⟨_, rfl, _, rfl, iteT ?_⟩
      obtain ⟨b, rfl, hb⟩ := id hu
      refine ⟨_, rfl, _, _, _, _, true, rfl, .ty "tuple", .base (.tup hb), kit_ty (by decide +kernel), true, rfl, iteF ?_⟩
      have hvl3 := keeps_looks _ _ _ _ s3 hvl2
      rw [hl] at hvl3
      refine ⟨_, rfl, _, rfl, _, rfl, _, heads LL, i, rfl, hvl3, ok_heads ok su, by rw [heads_len]; exact hi, fun t u2 G4 s4 hu2 lw => ?_⟩
      have ert : r = t := same pr lw
      subst ert
      refine ne_ints (keeps_ints _ _ _ _ s4 hu) hu2 ⟨_, rfl, ?_⟩
      rw [decide_eq_true rfl]
      exact iteF ⟨_, _, rfl, e13.trans (ExtN.same s4), Tabs.same hG3 s4⟩
    · have hG3 := Tabs.same hG2 s3
      have e13 := e12.trans (ExtN.same s3)
      refine ⟨_, rfl, _, rfl, ?_⟩
      rw [su]
      refine iteT ?_
      refine ⟨_, rfl, rfl, _, rfl, ?_⟩
      rw [decide_eq_true rfl]
      refine iteF ?_
      refine ⟨_, rfl, _, rfl, iteF ?_⟩
      exact iteF ⟨_, _, rfl, e13, hG3⟩
end
end K9

/-! the head: facts by names, the run -/
namespace K9
open PySem PySem.Spec PyProof.Rows L2 LamX
/-! ### the defs by their places -/
def nmA : List (Str × Nat) := [("is_integer", 6), ("is_index", 7), ("is_between", 8), ("is_tuple_of", 9), ("are_ascending", 10), ("are_standings", 16), ("is_outcome", 17), ("are_outcomes", 18), ("is_put", 19), ("check_kind", 20), ("check_standing", 23), ("is_sure", 25), ("sure", 26), ("check_sure", 27)]
def nmB : List (Str × Nat) := [("track_of", 28), ("shortest_round", 29), ("class_within", 30), ("class_of", 31), ("_law_pool", 33), ("_law_draw", 34), ("_law_pick", 35), ("_law_kind_parts", 36), ("_law_long_row", 37), ("_law_class", 38), ("_law_is_sure", 39), ("_law_nearly_sure", 40), ("_law_sure_told", 41), ("law", 42)]
def nm : List (Str × Nat) := nmA ++ nmB
def dd (q : Str × Nat) : He.DefD := ⟨(q.1, none), q.1, q.1, defArgs (top q.2), defBody (top q.2), defScope (top q.2), [], []⟩
def dI : He.DefD := ⟨("Kind", some "__init__"), "__init__", "Kind.__init__", defArgs sInit, defBody sInit, defScope sInit, [], []⟩
def fn : List He.DefD := dI :: nm.map dd
def faF : List He.Fa := [.free "isinstance", .free "int", .free "bool", .free "tuple", .free "len", .free "all", .free "any", .free "range", .free "list", .free "min", .free "abs", .free "sorted", .free "set"]
def faC : List He.Fa := [.int "MOST_STANDINGS" 8, .int "MOST_OUTCOMES" 4, .int "MOST_ANSWER" 9, .int "MOST_PUTS" 4, .glo "Kind", .cls "Kind", .mkr "Kind", .noat "Kind" "kept_looks", .noat "Kind" "kept_drifts", .noat "Kind" "kept_puts", .noat "Kind" "looks", .noat "Kind" "drifts", .noat "Kind" "puts", .noat "Kind" "size", .noat "Kind" "kept_facts", .glo "NotSure", .exc "NotSure", .exm "NotSure" "NotSure" true]
def fa : List He.Fa := faF ++ faC ++ nm.map fun q => .glo q.1
def tf : List He.Defn := [("law", none)]
abbrev R : PySem.W.OpenRow := PySem.W.OpenLaw.row PySem.Challenge.rw_lookspoil_k09_whole_sure_kinds_and_class
abbrev hk : PySem.W.Hook := He.hookX 5 fa fn [] tf (fun _ => true)
def ob (s : PySem.W.SharedT) : He.AlX := He.obsX 5 fa fn [] tf (fun _ => true) (HandSHeadRun.getT s)
theorem ob_eq (s : PySem.W.SharedT) : ob s = hk.obs s.abs := He.obsX_eq (HandSHeadRun.getT_eq s)
def looseA : List Str := ["__name__", "SpoilError", "BadKind", "NoStanding", "NotSure", "is_integer", "is_index", "is_between", "is_tuple_of", "are_ascending", "MOST_STANDINGS", "MOST_OUTCOMES", "MOST_ANSWER", "MOST_PUTS", "are_standings", "is_outcome", "are_outcomes", "is_put", "check_kind", "Kind"]
def looseB : List Str := ["check_standing", "is_sure", "sure", "check_sure", "track_of", "shortest_round", "class_within", "class_of", "_law_pool", "_law_draw", "_law_pick", "_law_kind_parts", "_law_long_row", "_law_class", "_law_is_sure", "_law_nearly_sure", "_law_sure_told"]
def loose : List Str := looseA ++ looseB
theorem run (w : World) : HandSHeadRun.RunEq R (PySem.W.view R.prog [42]) hk ob 6000 loose w := by
  intro os
  kernel_rfl
end K9

/-! the law holds -/
namespace K9
open PySem PySem.Spec PyProof.Rows L2 LamX
section
variable {K : PySem.W.Frag} {h : Heap} {mg : Str → Option Value}
theorem known (X : K.In h) (G : h.Ns mainGlobals mg) (c : He.SaysD fa fn K) {q : Str × Nat} (hq : q ∈ nm) : Known K mg q.1 (top q.2) := by
  obtain ⟨fd, F⟩ := He.SaysD.defs c (d := dd q) (List.mem_cons_of_mem _ (List.mem_map.mpr ⟨q, hq, rfl⟩))
  exact ⟨_, fd, F, He.glo_ok X G (He.SaysD.facts c (f := .glo q.1) (List.mem_append.mpr (Or.inr (List.mem_map.mpr ⟨q, hq, rfl⟩))))⟩
theorem inA {q : Str × Nat} {i : Nat} (h : nmA[i]? = some q) : q ∈ nm := List.mem_append.mpr (Or.inl (List.mem_of_getElem? h))
theorem inB {q : Str × Nat} {i : Nat} (h : nmB[i]? = some q) : q ∈ nm := List.mem_append.mpr (Or.inr (List.mem_of_getElem? h))
theorem factF (c : He.SaysD fa fn K) {f : He.Fa} {i : Nat} (h : faF[i]? = some f) : f.ok K = true := He.SaysD.facts c (List.mem_append.mpr (Or.inl (List.mem_append.mpr (Or.inl (List.mem_of_getElem? h)))))
theorem factC (c : He.SaysD fa fn K) {f : He.Fa} {i : Nat} (h : faC[i]? = some f) : f.ok K = true := He.SaysD.facts c (List.mem_append.mpr (Or.inl (List.mem_append.mpr (Or.inr (List.mem_of_getElem? h)))))
theorem free_all (X : K.In h) (G : h.Ns mainGlobals mg) (c : He.SaysD fa fn K) : Free mg :=
  ⟨He.free_ok X G (factF c (i := 0) rfl), He.free_ok X G (factF c (i := 1) rfl), He.free_ok X G (factF c (i := 2) rfl), He.free_ok X G (factF c (i := 3) rfl), He.free_ok X G (factF c (i := 4) rfl), He.free_ok X G (factF c (i := 5) rfl), He.free_ok X G (factF c (i := 6) rfl),
    He.free_ok X G (factF c (i := 7) rfl), He.free_ok X G (factF c (i := 8) rfl), He.free_ok X G (factF c (i := 9) rfl), He.free_ok X G (factF c (i := 10) rfl), He.free_ok X G (factF c (i := 11) rfl), He.free_ok X G (factF c (i := 12) rfl)⟩
theorem con_one (X : K.In h) (G : h.Ns mainGlobals mg) {x : Str} {i : Int} (c : (He.Fa.int x i).ok K = true) : ∃ u, mg x = some u ∧ RelV (.int i) u := by
  obtain ⟨t, e⟩ := He.int_ok X G c
  exact ⟨_, e, t, rfl⟩
theorem cons_all (X : K.In h) (G : h.Ns mainGlobals mg) (c : He.SaysD fa fn K) : Cons mg :=
  ⟨con_one X G (factC c (i := 0) rfl), con_one X G (factC c (i := 1) rfl), con_one X G (factC c (i := 2) rfl), con_one X G (factC c (i := 3) rfl)⟩
theorem kind_all (X : K.In h) (G : h.Ns mainGlobals mg) (c : He.SaysD fa fn K) : KindC K mg (He.ga K "Kind") :=
  ⟨He.cls_ok (factC c (i := 5) rfl), He.glo_ok X G (factC c (i := 4) rfl), He.noat_ok (factC c (i := 7) rfl), He.noat_ok (factC c (i := 8) rfl), He.noat_ok (factC c (i := 9) rfl), He.noat_ok (factC c (i := 10) rfl), He.noat_ok (factC c (i := 11) rfl), He.noat_ok (factC c (i := 12) rfl), He.noat_ok (factC c (i := 13) rfl), He.noat_ok (factC c (i := 14) rfl)⟩
theorem err_all (X : K.In h) (G : h.Ns mainGlobals mg) (c : He.SaysD fa fn K) : ErrC K mg (He.ga K "NotSure") := by
  obtain ⟨e1, e2, e3, e4⟩ := He.exc_ok (factC c (i := 16) rfl)
  exact ⟨He.glo_ok X G (factC c (i := 15) rfl), e1, e2, e3, e4, He.exm_ok (factC c (i := 17) rfl)⟩
/-- all the program's defs keep their promises, and the law its own -/
theorem all {P : Program} {w : World} {base : Heap} {f g c Pt : Addr} {fd fdg : FuncData} (X : K.In h) (G : h.Ns mainGlobals mg) (cs : He.SaysD fa fn K) (F : FnP K "law" (top 42) f fd) (hc : fd.code = .ref c) (TB : TabB base mg c Pt) (Fg : FnP K "_law_sure_told" (top 41) g fdg) (hg : mg "_law_sure_told" = some (.ref g)) :
    FnOk P w K mg base C8.CX0 8 f fd ["_law_script"] (spLaw K Pt) := by
  have T := free_all X G cs
  have C := cons_all X G cs
  have KC := kind_all X G cs
  have EC := err_all X G cs
  have kA : ∀ {q : Str × Nat} (i : Nat), nmA[i]? = some q → Known K mg q.1 (top q.2) := fun i e => known X G cs (inA (i := i) e)
  have kB : ∀ {q : Str × Nat} (i : Nat), nmB[i]? = some q → Known K mg q.1 (top q.2) := fun i e => known X G cs (inB (i := i) e)
  have c0 : Cal P w K mg base 1 "is_integer" spIsInteger := cal_is_integer (kA 0 rfl) T
  have c1 : Cal P w K mg base 2 "is_index" spIsIndex := cal_is_index (kA 1 rfl) c0
  have c2 : Cal P w K mg base 2 "is_between" spIsBetween := cal_is_between (kA 2 rfl) c0
  have c3 : Cal P w K mg base 1 "is_tuple_of" spIsTupleOf := cal_is_tuple_of (kA 3 rfl) T
  have c4 : Cal P w K mg base 1 "are_ascending" spAsc := cal_are_ascending (kA 4 rfl) T
  have c5 : Cal P w K mg base 3 "are_standings" spStandings := cal_are_standings (kA 5 rfl) T c1 c4
  have c6 : Cal P w K mg base 3 "is_outcome" spIsOutcome := cal_is_outcome (kA 6 rfl) C c3 c2 c1
  have c7 : Cal P w K mg base 4 "are_outcomes" spOutcomes := cal_are_outcomes (kA 7 rfl) T C c3 c6 c4
  have c8 : Cal P w K mg base 4 "is_put" spIsPut := cal_is_put (kA 8 rfl) c3 c1 c5
  have c9 : Cal P w K mg base 5 "check_kind" spCheckKind := cal_check_kind (kA 9 rfl) T C c3 c7 c5 c8
  obtain ⟨fdI, FI⟩ := He.SaysD.defs cs (d := dI) List.mem_cons_self
  have mk : C8.Mak P w K mg base 6 "Kind" (He.ga K "Kind") (spInit (He.ga K "Kind")) [] := mak_kind FI (He.mkr_ok (factC cs (i := 6) rfl)) T KC c9
  have c10 : Cal P w K mg base 3 "check_standing" (spCheckStanding (He.ga K "Kind")) := cal_check_standing (kA 10 rfl) KC c1
  have c11 : Cal P w K mg base 1 "is_sure" (spIsSure (He.ga K "Kind")) := cal_is_sure (kA 11 rfl) T KC
  have c12 : Cal P w K mg base 2 "sure" (spIsSure (He.ga K "Kind")) := cal_sure (kA 12 rfl) c11
  have c13 : CalX P w K mg base 2 "check_sure" (spCheckSure (He.ga K "Kind") (He.ga K "NotSure")) := cal_check_sure (kA 13 rfl) EC c11
  have d0 : Cal P w K mg base 1 "track_of" (spTrack (He.ga K "Kind")) := cal_track_of (kB 0 rfl) T KC
  have d1 : Cal P w K mg base 1 "shortest_round" spShort := cal_shortest_round (kB 1 rfl) T
  have d2 : Cal P w K mg base 2 "class_within" (spWithin (He.ga K "Kind")) := cal_class_within (kB 2 rfl) T KC d0 d1
  have d3 : CalX P w K mg base 4 "class_of" (spClassOf (He.ga K "Kind") (He.ga K "NotSure")) := cal_class_of (kB 3 rfl) c10 c13 d2
  have d4 : Cal P w K mg base 1 "_law_pool" (spPool K) := cal_law_pool (kB 4 rfl) T
  have d5 : Cal P w K mg base 1 "_law_draw" spDraw := cal_law_draw (kB 5 rfl) T
  have d6 : Cal P w K mg base 2 "_law_pick" spPick := cal_law_pick (kB 6 rfl) T d5
  have d7 : Cal P w K mg base 3 "_law_kind_parts" spParts := cal_law_parts (kB 7 rfl) T d5 d6
  have d8 : Cal P w K mg base 1 "_law_long_row" spLongRow := cal_long_row (kB 8 rfl) T
  have d9 : Cal P w K mg base 2 "_law_class" spLawClass := cal_law_class (kB 9 rfl) T d8
  have d10 : Cal P w K mg base 1 "_law_is_sure" spLawIsSure := cal_law_is_sure (kB 10 rfl) T
  have d11 : Cal P w K mg base 4 "_law_nearly_sure" spNearly := cal_nearly (kB 11 rfl) T d5 d7
  exact ok_law F hc TB T EC d4 d11 mk d10 c12 Fg hg d3 d9
theorem lawAt {w : World} {f : Addr} (X : K.In h) (G : h.Ns mainGlobals mg) (hf : mg "law" = some (.ref f)) (c : He.SaysX fa fn [] tf (fun _ => true) w h K) : LawAtS PySem.Challenge.rw_lookspoil_k09_whole_sure_kinds_and_class w K C8.CX0 8 63 "_law_script" mg f h := by
  have cs : He.SaysD fa fn K := c.t.d
  obtain ⟨fd, F⟩ := He.SaysD.defs cs (d := dd ("law", 42)) (List.mem_cons_of_mem _ (List.mem_map.mpr ⟨_, inB (i := 13) rfl, rfl⟩))
  obtain ⟨fdg, Fg⟩ := He.SaysD.defs cs (d := dd ("_law_sure_told", 41)) (List.mem_cons_of_mem _ (List.mem_map.mpr ⟨_, inB (i := 12) rfl, rfl⟩))
  have hg : mg "_law_sure_told" = some (.ref (He.ga K "_law_sure_told")) := He.glo_ok X G (He.SaysD.facts cs (f := .glo "_law_sure_told") (List.mem_append.mpr (Or.inr (List.mem_map.mpr ⟨_, inB (i := 12) rfl, rfl⟩))))
  have hl : mg "law" = some (.ref (He.ga K "law")) := He.glo_ok X G (He.SaysD.facts cs (f := .glo "law") (List.mem_append.mpr (Or.inr (List.mem_map.mpr ⟨_, inB (i := 13) rfl, rfl⟩))))
  have ef : f = He.ga K "law" := by
    have z := hf.symm.trans hl
    cases z
    rfl
  subst ef
  have hm : (("law", none) : He.Defn) ∈ tf := List.mem_singleton.mpr rfl
  have hcode : fd.code = .ref (He.cT K ("law", none)).1 := by
    obtain ⟨oc, od, dV, kV, doc, pm, an, cdv, ct, osl, efd, lk, hcd, _, _⟩ := F.ex
    obtain ⟨a, ea⟩ := He.codeIn_ref hcd
    have ec : fd.code = .ref a := by rw [efd]; exact ea
    rw [ec]
    exact congrArg Value.ref (He.codeOf_eq (p := ("law", none)) lk ec).symm
  have b := F.bindsA (ps := ["_law_script"]) fun _ _ _ _ _ _ us hl => match us, hl with | [_], _ => rfl
  refine ⟨fd, [He.cT K ("law", none)], spLaw K (He.cT K ("law", none)).2, fun p hp => ?_, fun p hp => ?_, fun p hp => ?_, fun s u => b s [u] rfl, fun H a ns hl _ hH hS => ?_, fun base _ _ hT => ?_⟩
  · rw [List.mem_singleton.mp hp]
    exact c.empty _ hm
  · rw [List.mem_singleton.mp hp]
    exact c.out _ hm
  · rw [List.mem_singleton.mp hp]
    exact PySem.W.codeHd_of_K X (c.hd _ hm)
  · exact ⟨a, ns, rfl, hS, hl, hH _ (List.mem_singleton.mpr rfl), fun _ => rfl⟩
  · exact all X G cs F hcode (hT _ (List.mem_singleton.mpr rfl)) Fg hg
end
end K9
open PySem PySem.W PySem.Calls PyProof.Rows
theorem PySem.Challenge.cw_lookspoil_k09_whole_sure_kinds_and_class_holds : PySem.Challenge.rw_lookspoil_k09_whole_sure_kinds_and_class.Holds := by
  w_on; o_law
  refine HandSHeadRun.head_any (r := OpenLaw.row PySem.Challenge.rw_lookspoil_k09_whole_sure_kinds_and_class) (q := view (OpenLaw.row PySem.Challenge.rw_lookspoil_k09_whole_sure_kinds_and_class).prog [42]) (H := K9.hk) (ob := K9.ob) (M := 6000) (loose := K9.loose) (d := HandSHeadRun.topDef (OpenLaw.row PySem.Challenge.rw_lookspoil_k09_whole_sure_kinds_and_class).prog 42) (kwd := []) K9.ob_eq
    (by kernel_rfl) (fun s => by kernel_rfl) K9.run (by kernel_rfl) (by kernel_rfl) (by kernel_rfl) (by rfl) (by first | assumption | decide +kernel) (by decide +kernel) ⟨rfl, rfl, rfl, rfl, rfl, by decide +kernel⟩ ?hw ?hc
  case hw => w_witness2
  case hc =>
    refine LamX.walk_ofTsE (l := PySem.Challenge.rw_lookspoil_k09_whole_sure_kinds_and_class) (n := 63) (k := 8) (x := "_law_script") (CX := fun _ => C8.CX0) rfl (by decide) (by kernel_rfl) ⟨rfl, by decide, by decide⟩ ?F (fun _ _ _ _ _ z => z)
    intro w mg fa h Y G hmg0
    obtain ⟨K, KX, c⟩ := Y
    have hmg : mg ("law" : PySem.Str) = some (.ref fa) := by
      have e : (HandSHeadRun.topDef (OpenLaw.row PySem.Challenge.rw_lookspoil_k09_whole_sure_kinds_and_class).prog 42).name = ("law" : PySem.Str) := by kernel_rfl
      rw [← e]
      exact hmg0
    exact ⟨K, KX, K9.lawAt KX G hmg c⟩

