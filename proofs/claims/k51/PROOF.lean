import PyProof.Rows.All
import Wide.All
import OpenK.AllK
import Wide.FinOn
import HandS.ForMost
import HandS.Walk
import HandS.Zip
import HandS.Wide
import HandS.IsInst
import HandS.Flow
import HandS.Strs
import HandS.SetFor
import HandS.DictComp
import HandS.DictTup
import HandS.Conv
import HandS.More
import HandS.TupAny
import HandS.EndBits
import KE.SortData
import KE.KDictKeyed
import KE.KDictDisplayH
import KE.KDictItemsList
import KE.GoesEnum
import HandS.Codes
import PySem.Challenge.RW_sharebags_k51_whole_blind_pourers
set_option Elab.async false
set_option linter.all false
set_option maxRecDepth 100000
set_option maxHeartbeats 4000000
/-! Families of bags as hypertrees: plain mathematics. -/
set_option autoImplicit false
namespace Sb
abbrev Bag := List Nat
abbrev Fam := List Bag

/-! ### colourings -/
def Cst (c : Nat → Nat) (b : Bag) : Prop := ∀ x, x ∈ b → ∀ y, y ∈ b → c x = c y
def Conn (n : Nat) (F : Fam) : Prop := ∀ c : Nat → Nat, (∀ b, b ∈ F → Cst c b) → ∀ x, x < n → ∀ y, y < n → c x = c y
def wt (F : Fam) : Nat := (F.map fun b => b.length - 1).sum
theorem wt_cons (b : Bag) (F : Fam) : wt (b :: F) = (b.length - 1) + wt F := by simp [wt]
theorem wt_append (F G : Fam) : wt (F ++ G) = wt F + wt G := by simp [wt, List.map_append, List.sum_append]
theorem wt_perm {F G : Fam} (h : F.Perm G) : wt F = wt G := by
  unfold wt
  exact (h.map _).sum_nat
/-- the colours below n that are met -/
def cnt (n : Nat) (c : Nat → Nat) : Nat := (List.range n).countP fun k => (List.range n).any fun x => c x == k

theorem countP_but {p q : Nat → Bool} {a : Nat} : ∀ {l : List Nat}, l.Nodup → (∀ k, k ∈ l → k ≠ a → p k = true → q k = true) → l.countP p ≤ l.countP q + 1
  | [], _, _ => by simp
  | k :: r, hn, h => by
    obtain ⟨hk, hr⟩ := List.nodup_cons.mp hn
    by_cases e : k = a
    · subst e
      have h1 : r.countP p ≤ r.countP q := List.countP_mono_left fun x hx px => h x (List.mem_cons_of_mem _ hx) (fun z => hk (z ▸ hx)) px
      rw [List.countP_cons, List.countP_cons]
      split <;> split <;> omega
    · have h1 := countP_but (a := a) hr fun x hx ne px => h x (List.mem_cons_of_mem _ hx) ne px
      rw [List.countP_cons, List.countP_cons]
      have h2 := h k List.mem_cons_self e
      cases hp : p k with
      | true => rw [h2 hp]; simp; omega
      | false => simp; omega
/-- a colour laid upon another -/
theorem cnt_merge {n a b : Nat} {c : Nat → Nat} : cnt n c ≤ cnt n (fun z => if c z = a then b else c z) + 1 := by
  refine countP_but (a := a) List.nodup_range fun k _ hk h => ?_
  rw [List.any_eq_true] at h ⊢
  obtain ⟨x, hx, e⟩ := h
  have e' : c x = k := by simpa using e
  refine ⟨x, hx, ?_⟩
  show ((if c x = a then b else c x) == k) = true
  rw [if_neg (by omega)]
  exact e
theorem bag_colour {n : Nat} : ∀ (b : Bag) (c : Nat → Nat), (∀ x, x < n → c x < n) → (∀ x, x ∈ b → x < n) → b ≠ [] →
    ∃ c' : Nat → Nat, (∀ x, x < n → c' x < n) ∧ (∀ x y, c x = c y → c' x = c' y) ∧ Cst c' b ∧ cnt n c ≤ cnt n c' + (b.length - 1)
  | [], _, _, _, h => absurd rfl h
  | [x], c, hc, _, _ => ⟨c, hc, fun _ _ h => h, fun u hu v hv => by
      rw [List.mem_singleton] at hu hv
      rw [hu, hv], by simp⟩
  | x :: y :: r, c, hc, hb, _ => by
    obtain ⟨d, hd, hk, hr, hn⟩ := bag_colour (y :: r) c hc (fun z hz => hb z (List.mem_cons_of_mem _ hz)) (by simp)
    refine ⟨fun z => if d z = d x then d y else d z, fun z hz => ?_, fun u v e => ?_, fun u hu v hv => ?_, ?_⟩
    · show (if d z = d x then d y else d z) < n
      have hy : y < n := hb y (by simp)
      split
      · exact hd y hy
      · exact hd z hz
    · show (if d u = d x then d y else d u) = (if d v = d x then d y else d v)
      rw [hk u v e]
    · have key : ∀ z, z ∈ x :: y :: r → (if d z = d x then d y else d z) = d y := fun z hz => by
        split
        · rfl
        · rename_i hne
          rcases List.mem_cons.mp hz with e | hz
          · subst e; exact absurd rfl hne
          · exact hr z hz y List.mem_cons_self
      show (if d u = d x then d y else d u) = (if d v = d x then d y else d v)
      rw [key u hu, key v hv]
    · have h2 := cnt_merge (n := n) (a := d x) (b := d y) (c := d)
      have e1 : (x :: y :: r).length - 1 = ((y :: r).length - 1) + 1 := by simp
      omega
theorem fam_colour {n : Nat} : ∀ F : Fam, (∀ b, b ∈ F → b ≠ [] ∧ ∀ x, x ∈ b → x < n) →
    ∃ c : Nat → Nat, (∀ x, x < n → c x < n) ∧ (∀ b, b ∈ F → Cst c b) ∧ n ≤ cnt n c + wt F
  | [], _ => ⟨fun x => x, fun _ h => h, (fun _ h => nomatch h), by
      have e : cnt n (fun x => x) = n := by
        unfold cnt
        have h : (List.range n).countP (fun k => (List.range n).any fun x => x == k) = (List.range n).length := by
          rw [List.countP_eq_length]
          intro k hk
          rw [List.any_eq_true]
          exact ⟨k, hk, by simp⟩
        rw [h, List.length_range]
      simp [e, wt]⟩
  | b :: F, h => by
    obtain ⟨c, hc, hF, hn⟩ := fam_colour F fun b' hb' => h b' (List.mem_cons_of_mem _ hb')
    obtain ⟨hb0, hbn⟩ := h b List.mem_cons_self
    obtain ⟨d, hd, hk, hb, hm⟩ := bag_colour b c hc hbn hb0
    refine ⟨d, hd, fun b' hb' => ?_, ?_⟩
    · rcases List.mem_cons.mp hb' with e | hb'
      · subst e; exact hb
      · exact fun x hx y hy => hk x y (hF b' hb' x hx y hy)
    · rw [wt_cons]
      omega
/-- what hangs together has bags enough -/
theorem conn_wt {n : Nat} {F : Fam} (hb : ∀ b, b ∈ F → b ≠ [] ∧ ∀ x, x ∈ b → x < n) (hc : Conn n F) : n ≤ wt F + 1 := by
  obtain ⟨c, hl, hF, hn⟩ := fam_colour F hb
  have h1 : cnt n c ≤ 1 := by
    unfold cnt
    cases n with
    | zero => simp
    | succ m =>
      have key : ∀ k, (List.range (m + 1)).any (fun x => c x == k) = true → k = c 0 := fun k hk => by
        rw [List.any_eq_true] at hk
        obtain ⟨x, hx, e⟩ := hk
        have e' : c x = k := by simpa using e
        rw [← e']
        exact hc c hF x (by simpa using hx) 0 (by omega)
      have h2 := countP_but (p := fun k => (List.range (m + 1)).any fun x => c x == k) (q := fun _ => false) (a := c 0) (l := List.range (m + 1)) List.nodup_range fun k _ ne hk => absurd (key k hk) ne
      have e0 : (List.range (m + 1)).countP (fun _ => false) = 0 := by rw [List.countP_eq_zero]; simp
      omega
  omega

/-! ### hypertrees -/
structure Tree (n : Nat) (F : Fam) : Prop where
  up : ∀ b, b ∈ F → b.Pairwise (· < ·)
  two : ∀ b, b ∈ F → 2 ≤ b.length
  lt : ∀ b, b ∈ F → ∀ x, x ∈ b → x < n
  conn : Conn n F
  wt : wt F + 1 ≤ n
  size : 2 ≤ n

theorem Tree.ne {n : Nat} {F : Fam} (t : Tree n F) {b : Bag} (h : b ∈ F) : b ≠ [] := fun e => by
  have := t.two b h
  rw [e] at this
  simp at this
theorem up_nodup {b : Bag} (h : b.Pairwise (· < ·)) : b.Nodup := h.imp fun h => Nat.ne_of_lt h
/-- two bags share a bead at most -/
theorem Tree.linear {n : Nat} {P S R : Fam} {A B : Bag} (t : Tree n (P ++ A :: S ++ B :: R)) {x y : Nat} (hx : x ∈ A) (hx' : x ∈ B) (hy : y ∈ A) (hy' : y ∈ B) : x = y := by
  refine Classical.byContradiction fun hne => ?_
  have mA : A ∈ P ++ A :: S ++ B :: R := by simp
  have mB : B ∈ P ++ A :: S ++ B :: R := by simp
  have hA := t.two A mA
  have nd := up_nodup (t.up A mA)
  have le : (A.erase y).length = A.length - 1 := List.length_erase_of_mem hy
  have xe : x ∈ A.erase y := (List.mem_erase_of_ne hne).mpr hx
  have h := conn_wt (n := n) (F := P ++ A.erase y :: S ++ B :: R) (fun b hb => ?_) (fun c hF => ?_)
  · have hw := t.wt
    simp only [List.append_assoc, List.cons_append, wt_append, wt_cons] at h hw
    omega
  · rcases List.mem_append.mp hb with hb | hb
    · rcases List.mem_append.mp hb with hb | hb
      · have m : b ∈ P ++ A :: S ++ B :: R := by simp [hb]
        exact ⟨t.ne m, t.lt b m⟩
      · rcases List.mem_cons.mp hb with e | hb
        · subst e
          exact ⟨List.ne_nil_of_mem xe, fun z hz => t.lt A mA z (List.mem_of_mem_erase hz)⟩
        · have m : b ∈ P ++ A :: S ++ B :: R := by simp [hb]
          exact ⟨t.ne m, t.lt b m⟩
    · have m : b ∈ P ++ A :: S ++ B :: R := List.mem_append_right _ hb
      exact ⟨t.ne m, t.lt b m⟩
  · refine t.conn c fun b hb => ?_
    have old : ∀ b', b' ∈ P ++ A.erase y :: S ++ B :: R → Cst c b' := hF
    rcases List.mem_append.mp hb with hb | hb
    · rcases List.mem_append.mp hb with hb | hb
      · exact old b (by simp [hb])
      · rcases List.mem_cons.mp hb with e | hb
        · subst e
          have hB : Cst c B := old B (by simp)
          have hE : Cst c (b.erase y) := old _ (by simp)
          have exy : c y = c x := hB y hy' x hx'
          have key : ∀ z, z ∈ b → c z = c x := fun z hz => by
            by_cases e : z = y
            · rw [e]; exact exy
            · exact hE z ((List.mem_erase_of_ne e).mpr hz) x xe
          exact fun u hu v hv => (key u hu).trans (key v hv).symm
        · exact old b (by simp [hb])
    · exact old b (List.mem_append_right _ hb)

theorem Tree.perm {n : Nat} {F G : Fam} (t : Tree n F) (h : G.Perm F) : Tree n G where
  up b hb := t.up b (h.mem_iff.mp hb)
  two b hb := t.two b (h.mem_iff.mp hb)
  lt b hb := t.lt b (h.mem_iff.mp hb)
  conn c hc := t.conn c fun b hb => hc b (h.mem_iff.mpr hb)
  wt := by rw [wt_perm h]; exact t.wt
  size := t.size

theorem split2 {α : Type} {F : List α} {i j : Nat} {A B : α} (hij : i < j) (hi : F[i]? = some A) (hj : F[j]? = some B) : ∃ P S R, F = P ++ A :: S ++ B :: R := by
  obtain ⟨h1, e1⟩ := List.getElem?_eq_some_iff.mp hi
  obtain ⟨h2, e2⟩ := List.getElem?_eq_some_iff.mp hj
  refine ⟨F.take i, (F.drop (i + 1)).take (j - i - 1), F.drop (j + 1), ?_⟩
  have d1 : F.drop i = A :: F.drop (i + 1) := by rw [List.drop_eq_getElem_cons h1, e1]
  have d2 : F.drop j = B :: F.drop (j + 1) := by rw [List.drop_eq_getElem_cons h2, e2]
  have d3 : F.drop (i + 1) = (F.drop (i + 1)).take (j - i - 1) ++ F.drop j := by
    have e : F.drop j = (F.drop (i + 1)).drop (j - i - 1) := by rw [List.drop_drop]; congr 1; omega
    rw [e, List.take_append_drop]
  rw [List.append_assoc, List.cons_append, ← d2, ← d3, ← d1, List.take_append_drop]
theorem Tree.lin {n : Nat} {F : Fam} (t : Tree n F) {i j : Nat} {A B : Bag} (hi : F[i]? = some A) (hj : F[j]? = some B) (hij : i ≠ j) {x y : Nat} (hx : x ∈ A) (hx' : x ∈ B) (hy : y ∈ A) (hy' : y ∈ B) : x = y := by
  rcases Nat.lt_or_gt_of_ne hij with h | h
  · obtain ⟨P, S, R, e⟩ := split2 h hi hj
    subst e
    exact t.linear hx hx' hy hy'
  · obtain ⟨P, S, R, e⟩ := split2 h hj hi
    subst e
    exact t.linear hx' hx hy' hy
/-- different bags -/
theorem Tree.nodup {n : Nat} {F : Fam} (t : Tree n F) : F.Nodup := by
  refine List.pairwise_iff_getElem.mpr fun i j hi hj hij e => ?_
  have ei : F[i]? = some F[i] := List.getElem?_eq_getElem hi
  have ej : F[j]? = some F[i] := by rw [e]; exact List.getElem?_eq_getElem hj
  have h2 := t.two _ (List.mem_of_getElem? ei)
  have nd := up_nodup (t.up _ (List.mem_of_getElem? ei))
  have h := t.lin ei ej (by omega) (x := F[i][0]) (y := F[i][1]) (by simp) (by simp) (by simp) (by simp)
  exact absurd ((List.getElem_inj nd).mp h) (by omega)
/-- each bead is in a bag -/
theorem Tree.homes {n : Nat} {F : Fam} (t : Tree n F) {x : Nat} (hx : x < n) : ∃ b, b ∈ F ∧ x ∈ b := by
  refine Classical.byContradiction fun h => ?_
  have hc := t.conn (fun z => if z = x then 1 else 0) (fun b hb u hu v hv => by
    have hu' : u ≠ x := fun e => h ⟨b, hb, e ▸ hu⟩
    have hv' : v ≠ x := fun e => h ⟨b, hb, e ▸ hv⟩
    simp [hu', hv'])
  have hs := t.size
  by_cases e : x = 0
  · have := hc x hx 1 (by omega)
    simp [e] at this
  · have := hc x hx 0 (by omega)
    have e' : ¬ 0 = x := fun z => e z.symm
    simp [e'] at this
/-- the number of bags -/
theorem Tree.few {n : Nat} {F : Fam} (t : Tree n F) : F.length + 1 ≤ n := by
  have h : ∀ G : Fam, (∀ b, b ∈ G → 2 ≤ b.length) → G.length ≤ Sb.wt G := by
    intro G
    induction G with
    | nil => intro _; simp
    | cons b G ih =>
      intro h
      have h1 := ih fun b' hb' => h b' (List.mem_cons_of_mem _ hb')
      have h2 := h b List.mem_cons_self
      rw [wt_cons, List.length_cons]
      omega
  have := h F t.two
  have := t.wt
  omega
theorem Tree.ne_nil {n : Nat} {F : Fam} (t : Tree n F) : F ≠ [] := fun e => by
  obtain ⟨b, hb, _⟩ := t.homes (x := 0) (by have := t.size; omega)
  rw [e] at hb
  cases hb
end Sb
/-! Ratios: plain mathematics. -/
set_option autoImplicit false
namespace Sb
abbrev Rat2 := Nat × Nat
def low (a b : Nat) : Rat2 := (a / a.gcd b, b / a.gcd b)
def plusR (r t : Rat2) : Rat2 := low (r.1 * t.2 + t.1 * r.2) (r.2 * t.2)
/-- the denominator divides D, the ratio is at most B -/
structure RB (D B : Nat) (r : Rat2) : Prop where
  pos : 0 < r.2
  dvd : r.2 ∣ D
  le : r.1 ≤ B * r.2
theorem low_pos {a b : Nat} (h : 0 < b) : 0 < (low a b).2 := Nat.div_pos (Nat.le_of_dvd h (Nat.gcd_dvd_right a b)) (Nat.gcd_pos_of_pos_right a h)
theorem low_le {a b B : Nat} (h : 0 < b) (hl : a ≤ B * b) : (low a b).1 ≤ B * (low a b).2 := by
  have hg : 0 < a.gcd b := Nat.gcd_pos_of_pos_right a h
  show a / a.gcd b ≤ B * (b / a.gcd b)
  rw [← Nat.mul_div_assoc _ (Nat.gcd_dvd_right a b)]
  exact Nat.div_le_div_right hl
theorem RB.mono {D E B C : Nat} {r : Rat2} (h : RB D B r) (hd : D ∣ E) (hb : B ≤ C) : RB E C r := ⟨h.pos, Nat.dvd_trans h.dvd hd, Nat.le_trans h.le (Nat.mul_le_mul_right _ hb)⟩
/-- one of k equal parts -/
theorem RB.part {D L B k : Nat} {r : Rat2} (h : RB D B r) (hk : 0 < k) (hd : k ∣ L) : RB (D * L) B (low r.1 (r.2 * k)) where
  pos := low_pos (Nat.mul_pos h.pos hk)
  dvd := Nat.dvd_trans (Nat.div_dvd_of_dvd (Nat.gcd_dvd_right _ _)) (Nat.mul_dvd_mul h.dvd hd)
  le := low_le (Nat.mul_pos h.pos hk) (Nat.le_trans h.le (Nat.mul_le_mul_left _ (Nat.le_mul_of_pos_right _ hk)))
/-- so many times -/
theorem RB.times {D B m : Nat} {r : Rat2} (h : RB D B r) : RB D (B * m) (low (r.1 * m) r.2) where
  pos := low_pos h.pos
  dvd := Nat.dvd_trans (Nat.div_dvd_of_dvd (Nat.gcd_dvd_right _ _)) h.dvd
  le := low_le h.pos (by
    have := Nat.mul_le_mul_right m h.le
    rw [Nat.mul_right_comm]
    exact this)
theorem RB.plus {D B C : Nat} {r t : Rat2} (hr : RB D B r) (ht : RB D C t) : RB D (B + C) (plusR r t) where
  pos := low_pos (Nat.mul_pos hr.pos ht.pos)
  dvd := by
    obtain ⟨u, hu⟩ := hr.dvd
    obtain ⟨v, hv⟩ := ht.dvd
    have hp : 0 < r.2 * t.2 := Nat.mul_pos hr.pos ht.pos
    have hg : 0 < (r.1 * t.2 + t.1 * r.2).gcd (r.2 * t.2) := Nat.gcd_pos_of_pos_right _ hp
    have e : (r.1 * t.2 + t.1 * r.2) * D = (r.2 * t.2) * (r.1 * u + t.1 * v) := by
      have e1 : r.1 * t.2 * D = r.2 * t.2 * (r.1 * u) := by rw [hu]; ac_rfl
      have e2 : t.1 * r.2 * D = r.2 * t.2 * (t.1 * v) := by rw [hv]; ac_rfl
      rw [Nat.add_mul, e1, e2, ← Nat.mul_add]
    have hc : ((r.1 * t.2 + t.1 * r.2) / (r.1 * t.2 + t.1 * r.2).gcd (r.2 * t.2)).Coprime ((r.2 * t.2) / (r.1 * t.2 + t.1 * r.2).gcd (r.2 * t.2)) := Nat.coprime_div_gcd_div_gcd hg
    show (r.2 * t.2) / (r.1 * t.2 + t.1 * r.2).gcd (r.2 * t.2) ∣ D
    refine Nat.Coprime.dvd_of_dvd_mul_left hc.symm ?_
    have d1 : (r.1 * t.2 + t.1 * r.2).gcd (r.2 * t.2) ∣ r.1 * t.2 + t.1 * r.2 := Nat.gcd_dvd_left _ _
    have d2 : (r.1 * t.2 + t.1 * r.2).gcd (r.2 * t.2) ∣ r.2 * t.2 := Nat.gcd_dvd_right _ _
    refine ⟨r.1 * u + t.1 * v, ?_⟩
    refine Nat.eq_of_mul_eq_mul_left hg ?_
    rw [← Nat.mul_assoc, Nat.mul_div_cancel' d1, e, ← Nat.mul_assoc, Nat.mul_div_cancel' d2]
  le := low_le (Nat.mul_pos hr.pos ht.pos) (by
    have h1 := Nat.mul_le_mul_right t.2 hr.le
    have h2 := Nat.mul_le_mul_right r.2 ht.le
    have e1 : B * r.2 * t.2 = B * (r.2 * t.2) := Nat.mul_assoc ..
    have e2 : C * t.2 * r.2 = C * (r.2 * t.2) := by rw [Nat.mul_assoc, Nat.mul_comm t.2]
    rw [Nat.add_mul]
    omega)
theorem RB.zero {D : Nat} (B : Nat) : RB D B (0, 1) := ⟨Nat.one_pos, Nat.one_dvd _, Nat.zero_le _⟩
/-- numbers of moderate size -/
theorem RB.small {D B : Nat} {r : Rat2} (h : RB D B r) (hD : 0 < D) {k : Nat} (hd : D * (B + 1) < 2 ^ k) : r.1 < 2 ^ k ∧ r.2 < 2 ^ k := by
  have h1 : r.2 ≤ D := Nat.le_of_dvd hD h.dvd
  have h2 := h.le
  have h3 : B * r.2 ≤ B * D := Nat.mul_le_mul_left _ h1
  have e : D * (B + 1) = B * D + D := by rw [Nat.mul_add, Nat.mul_one, Nat.mul_comm]
  omega
end Sb
/-! What the walk tracks: tuples of tuples of ints as data; dicts keyed by families. -/
namespace L2.SB
open PySem PySem.Spec PyProof.Rows Sb

abbrev vN (n : Nat) : V := .int (n : Int)
abbrev encN (n : Nat) : PyData := .int (n : Int)
/-! ### data made of ints and tuples, tracked -/
mutual
inductive Tq (H : Hp) : V → PyData → Prop
  | int (i : Int) : Tq H (.int i) (.int i)
  | tup {a : Addr} {xs : List V} {ds : List PyData} : H a = some (.tup xs) → Tqs H xs ds → Tq H (.ref a) (.tuple ds)
inductive Tqs (H : Hp) : List V → List PyData → Prop
  | nil : Tqs H [] []
  | cons {v : V} {vs : List V} {d : PyData} {ds : List PyData} : Tq H v d → Tqs H vs ds → Tqs H (v :: vs) (d :: ds)
end
/-- the tuples stay -/
def TT (H H' : Hp) : Prop := ∀ a xs, H a = some (.tup xs) → H' a = some (.tup xs)
theorem TT.refl (H : Hp) : TT H H := fun _ _ h => h
theorem TT.trans {H H1 H2 : Hp} (a : TT H H1) (b : TT H1 H2) : TT H H2 := fun c xs h => b c xs (a c xs h)
theorem _root_.L2.Same.tt {H H' : Hp} (s : Same H H') : TT H H' := fun a _ h => s a _ h
theorem TT.new {H : Hp} {p : Addr} {o : HO} (h : H p = none) : TT H (upd H p o) := fun a xs e => by rw [upd_ne (ne_of_none e h)]; exact e
/-- something that is no tuple changes -/
theorem TT.put {H : Hp} {p : Addr} {o u : HO} (h : H p = some u) (nu : ∀ xs, u ≠ .tup xs) : TT H (upd H p o) := fun a xs e => by
  rw [upd_ne (ne_of e h fun z => nu xs z.symm)]
  exact e
mutual
theorem Tq.mono {H H' : Hp} (t : TT H H') : ∀ {d : PyData} {v : V}, Tq H v d → Tq H' v d
  | _, _, .int i => .int i
  | _, _, .tup h q => .tup (t _ _ h) (Tqs.mono t q)
theorem Tqs.mono {H H' : Hp} (t : TT H H') : ∀ {ds : List PyData} {vs : List V}, Tqs H vs ds → Tqs H' vs ds
  | _, _, .nil => .nil
  | _, _, .cons h q => .cons (Tq.mono t h) (Tqs.mono t q)
end
mutual
theorem Tq.dp {K : PySem.W.Frag} {H : Hp} : ∀ {d : PyData} {v : V}, Tq H v d → Dp K H v d
  | _, _, .int i => .int i
  | _, _, .tup h q => .tup (.inl (.inl h)) (Tqs.dp q)
theorem Tqs.dp {K : PySem.W.Frag} {H : Hp} : ∀ {ds : List PyData} {vs : List V}, Tqs H vs ds → DpAll K H vs ds
  | _, _, .nil => .nil
  | _, _, .cons h q => .cons (Tq.dp h) (Tqs.dp q)
end
theorem Tqs.len {H : Hp} : ∀ {ds : List PyData} {vs : List V}, Tqs H vs ds → vs.length = ds.length
  | _, _, .nil => rfl
  | _, _, .cons _ q => by rw [List.length_cons, List.length_cons, Tqs.len q]
theorem Tqs.get {H : Hp} : ∀ {ds : List PyData} {vs : List V} {i : Nat} {d : PyData}, Tqs H vs ds → ds[i]? = some d → ∃ v, vs[i]? = some v ∧ Tq H v d
  | _, _, _, _, .nil, e => by simp at e
  | _, _, 0, _, .cons h _, e => by simp at e; subst e; exact ⟨_, rfl, h⟩
  | _, _, i + 1, _, .cons _ q, e => by
    obtain ⟨v, h1, h2⟩ := Tqs.get (i := i) q (by simpa using e)
    exact ⟨v, by simpa using h1, h2⟩
theorem Tqs.getV {H : Hp} : ∀ {ds : List PyData} {vs : List V} {i : Nat} {v : V}, Tqs H vs ds → vs[i]? = some v → ∃ d, ds[i]? = some d ∧ Tq H v d
  | _, _, _, _, .nil, e => by simp at e
  | _, _, 0, _, .cons h _, e => by simp at e; subst e; exact ⟨_, rfl, h⟩
  | _, _, i + 1, _, .cons _ q, e => by
    obtain ⟨v, h1, h2⟩ := Tqs.getV (i := i) q (by simpa using e)
    exact ⟨v, by simpa using h1, h2⟩
theorem Tqs.append {H : Hp} : ∀ {ds es : List PyData} {vs ws : List V}, Tqs H vs ds → Tqs H ws es → Tqs H (vs ++ ws) (ds ++ es)
  | _, _, _, _, .nil, r => r
  | _, _, _, _, .cons h q, r => .cons h (Tqs.append q r)
theorem Tqs.ints {H : Hp} : ∀ {ns : List Nat}, Tqs H (ns.map vN) (ns.map encN)
  | [] => .nil
  | _ :: _ => .cons (.int _) Tqs.ints
theorem Tqs.intsInv {H : Hp} : ∀ {ns : List Nat} {vs : List V}, Tqs H vs (ns.map encN) → vs = ns.map vN
  | [], _, q => by cases q; rfl
  | n :: ns, _, q => by
    cases q with
    | cons h r =>
      cases h
      rw [Tqs.intsInv r]
      rfl
/-- a tuple read as data -/
theorem Tq.tupInv {H : Hp} {v : V} {ds : List PyData} (h : Tq H v (.tuple ds)) : ∃ a xs, v = .ref a ∧ H a = some (.tup xs) ∧ Tqs H xs ds := by
  cases h with
  | tup h q => exact ⟨_, _, rfl, h, q⟩
theorem Tq.intInv {H : Hp} {v : V} {i : Int} (h : Tq H v (.int i)) : v = .int i := by
  cases h
  rfl

/-! ### bags, families, ratios as data -/
def encB (b : Bag) : PyData := .tuple (b.map encN)
def encF (F : Fam) : PyData := .tuple (F.map encB)
def encR (r : Rat2) : PyData := .tuple [.int (r.1 : Int), .int (r.2 : Int)]
def encI (x : Fam × Rat2) : PyData := .tuple [encF x.1, encR x.2]
theorem Tq.bag {H : Hp} {v : V} {b : Bag} (h : Tq H v (encB b)) : ∃ a, v = .ref a ∧ H a = some (.tup (b.map vN)) := by
  obtain ⟨a, xs, rfl, e, q⟩ := h.tupInv
  rw [Tqs.intsInv q] at e
  exact ⟨a, rfl, e⟩
theorem Tq.ofBag {H : Hp} {a : Addr} {b : Bag} (h : H a = some (.tup (b.map vN))) : Tq H (.ref a) (encB b) := .tup h Tqs.ints
theorem Tq.fam {H : Hp} {v : V} {F : Fam} (h : Tq H v (encF F)) : ∃ a xs, v = .ref a ∧ H a = some (.tup xs) ∧ Tqs H xs (F.map encB) := h.tupInv
theorem Tq.rat {H : Hp} {v : V} {r : Rat2} (h : Tq H v (encR r)) : ∃ a, v = .ref a ∧ H a = some (.tup [vN r.1, vN r.2]) := by
  obtain ⟨a, xs, rfl, e, q⟩ := h.tupInv
  cases q with
  | cons h1 q =>
    cases q with
    | cons h2 q =>
      cases q
      rw [h1.intInv, h2.intInv] at e
      exact ⟨a, rfl, e⟩
theorem Tq.ofRat {H : Hp} {a : Addr} {r : Rat2} (h : H a = some (.tup [vN r.1, vN r.2])) : Tq H (.ref a) (encR r) := .tup h (.cons (.int _) (.cons (.int _) .nil))
theorem Tq.item {H : Hp} {v : V} {x : Fam × Rat2} (h : Tq H v (encI x)) : ∃ a y z, v = .ref a ∧ H a = some (.tup [y, z]) ∧ Tq H y (encF x.1) ∧ Tq H z (encR x.2) := by
  obtain ⟨a, xs, rfl, e, q⟩ := h.tupInv
  cases q with
  | cons h1 q =>
    cases q with
    | cons h2 q =>
      cases q
      exact ⟨a, _, _, rfl, e, h1, h2⟩

/-! ### the order of data -/
open PySem.W in
theorem alike_intsN : ∀ xs ys : List Nat, alikeAll (xs.map encN) (ys.map encN) = true
  | [], _ => by simp [alikeAll]
  | _ :: _, [] => by simp [alikeAll]
  | x :: xs, y :: ys => by
    show alikeAll (.int x :: xs.map _) (.int y :: ys.map _) = true
    rw [alikeAll, alike_intsN xs ys]
    simp [alike]
open PySem.W in
theorem alike_B (b c : Bag) : alike (encB b) (encB c) = true := by
  unfold encB
  rw [alike]
  exact alike_intsN b c
open PySem.W in
theorem alike_Fs : ∀ F G : Fam, alikeAll (F.map encB) (G.map encB) = true
  | [], _ => by simp [alikeAll]
  | _ :: _, [] => by simp [alikeAll]
  | b :: F, c :: G => by
    rw [List.map_cons, List.map_cons, alikeAll, alike_B, alike_Fs F G]
    rfl
open PySem.W in
theorem alike_F (F G : Fam) : alike (encF F) (encF G) = true := by
  unfold encF
  rw [alike]
  exact alike_Fs F G
open PySem.W in
theorem alike_R (r t : Rat2) : alike (encR r) (encR t) = true := by simp [encR, alike, alikeAll]
open PySem.W in
theorem alike_I (x y : Fam × Rat2) : alike (encI x) (encI y) = true := by
  unfold encI
  rw [alike, alikeAll, alike_F, alikeAll, alike_R, alikeAll]
  all_goals rfl
theorem depth_intsN : ∀ xs : List Nat, PyData.depthAll (xs.map encN) = 0
  | [] => by simp [PyData.depthAll]
  | x :: xs => by
    show PyData.depthAll (.int x :: xs.map _) = 0
    rw [PyData.depthAll, depth_intsN xs]
    simp [PyData.depth]
theorem depth_B (b : Bag) : (encB b).depth ≤ 1 := by
  unfold encB
  rw [PyData.depth, depth_intsN]
  omega
theorem depth_Fs : ∀ F : Fam, PyData.depthAll (F.map encB) ≤ 1
  | [] => by simp [PyData.depthAll]
  | b :: F => by
    rw [List.map_cons, PyData.depthAll]
    have h1 := depth_B b
    have h2 := depth_Fs F
    omega
theorem depth_F (F : Fam) : (encF F).depth ≤ 2 := by
  unfold encF
  rw [PyData.depth]
  have := depth_Fs F
  omega
theorem depth_R (r : Rat2) : (encR r).depth ≤ 1 := by simp [encR, PyData.depth, PyData.depthAll]
theorem depth_I (x : Fam × Rat2) : (encI x).depth ≤ 3 := by
  unfold encI
  rw [PyData.depth, PyData.depthAll, PyData.depthAll, PyData.depthAll]
  have h1 := depth_F x.1
  have h2 := depth_R x.2
  omega
end L2.SB
/-! Dicts keyed by families, over the layer. -/
namespace L2.SB
open PySem PySem.Spec PyProof.Rows Sb

/-! ### the kind of key -/
abbrev numK (n : Nat) : NestedKey := .num (n : Int)
def bk (b : Bag) : NestedKey := .tup (b.map numK)
def fk (F : Fam) : NestedKey := .tup (F.map bk)
theorem map_inj {α β : Type} {f : α → β} (h : ∀ x y, f x = f y → x = y) : ∀ {xs ys : List α}, xs.map f = ys.map f → xs = ys
  | [], [], _ => rfl
  | [], _ :: _, e => by simp at e
  | _ :: _, [], e => by simp at e
  | x :: xs, y :: ys, e => by
    rw [List.map_cons, List.map_cons] at e
    injection e with e1 e2
    rw [h x y e1, map_inj h e2]
theorem bk_inj (b c : Bag) (h : bk b = bk c) : b = c := by
  unfold bk at h
  injection h with h
  refine map_inj (fun x y e => ?_) h
  have e' : (x : Int) = (y : Int) := by injection e
  omega
theorem fk_inj (F G : Fam) (h : fk F = fk G) : F = G := by
  unfold fk at h
  injection h with h
  exact map_inj bk_inj h
theorem bk_depth (b : Bag) : (bk b).depth ≤ 1 := by
  unfold bk
  rw [NestedKey.depth]
  have h : ∀ b : Bag, NestedKey.depthAll (b.map numK) = 0 := by
    intro b
    induction b with
    | nil => rfl
    | cons x r ih =>
      rw [List.map_cons, NestedKey.depthAll, ih]
      rfl
  rw [h b]
  omega
theorem fk_depth (F : Fam) : (fk F).depth ≤ 8 := by
  unfold fk
  rw [NestedKey.depth]
  have h : ∀ F : Fam, NestedKey.depthAll (F.map bk) ≤ 1 := by
    intro F
    induction F with
    | nil => exact Nat.zero_le _
    | cons x r ih =>
      rw [List.map_cons, NestedKey.depthAll]
      have := bk_depth x
      omega
  have := h F
  omega
def famKind (P : Program) (w : World) : HeapKind P w Fam where
  is := fun h F a => NestedIs h (fk F) (.ref a)
  hash := fun F => (fk F).hash w
  draws := fun F => (fk F).draws
  room := fun A => A.units + 8 < cLine
  inj := fun hx hy => fk_inj _ _ (NestedIs.inj _ _ _ hx hy)
  keeps := fun {h h' k a d o es ep} x ho hd hs => ((nestedKind P w).keeps ⟨x, fk_depth k⟩ ho hd hs).1
  pyHash := fun {A E s k a Q} hu hk h => (nestedKind P w).pyHash (k := fk k) hu ⟨hk, fk_depth k⟩ h
  eqBool := fun {A E s x y a b Q} hu hx hy h => (nestedKind P w).eqBool (x := fk x) (y := fk y) hu ⟨hx, fk_depth x⟩ ⟨hy, fk_depth y⟩ (by
    have e : decide (fk x = fk y) = decide (x = y) := by
      by_cases q : x = y
      · rw [q]; simp
      · rw [decide_eq_false q, decide_eq_false fun z => q (fk_inj _ _ z)]
    rw [e]
    exact h)
  quiet := fun {A E s k a Q} hk h => (nestedKind P w).quiet (k := fk k) ⟨hk, fk_depth k⟩ h

section
variable {P : Program} {w : World} {H : Hp} {h : Heap} {a : Addr}
theorem nest_bag (ok : HOk P w H h) {b : Bag} (e : H a = some (.tup (b.map vN))) : NestedIs h (bk b) (.ref a) := by
  obtain ⟨_, its, r, o, h1, h2, n, h3⟩ := (show ObjOk P w H h a (.tup (b.map vN)) from ok a _ e)
  refine .tup h1 h2 h3 ?_
  have all : ∀ {b : Bag} {us : List Value}, Vals (b.map vN) us → NestedAll h (b.map numK) us := by
    intro b
    induction b with
    | nil => intro us r; cases r; exact .nil
    | cons x r ih =>
      intro us q
      cases q with
      | cons h t =>
        obtain ⟨tk, rfl⟩ := h
        exact .cons (.int _ _) (ih t)
  exact all r
theorem nest_fam (ok : HOk P w H h) {F : Fam} (e : Tq H (.ref a) (encF F)) : NestedIs h (fk F) (.ref a) := by
  obtain ⟨a', xs, ea, e, q⟩ := e.fam
  injection ea with ea
  subst ea
  obtain ⟨_, its, r, o, h1, h2, n, h3⟩ := (show ObjOk P w H h a (.tup xs) from ok a _ e)
  refine .tup h1 h2 h3 ?_
  have all : ∀ {F : Fam} {vs : List V} {us : List Value}, Tqs H vs (F.map encB) → Vals vs us → NestedAll h (F.map bk) us := by
    intro F
    induction F with
    | nil =>
      intro vs us q r
      cases q
      cases r
      exact .nil
    | cons x F ih =>
      intro vs us q r
      cases q with
      | cons h1 q =>
        cases r with
        | cons r1 r2 =>
          obtain ⟨b, rfl, hb⟩ := h1.bag
          cases r1
          exact .cons (nest_bag ok hb) (ih q r2)
  exact all q r
end

/-! ### the dict as an object -/
abbrev NE := List (Fam × Addr × Addr)
abbrev entN (x : Fam × Addr × Addr) : Fam × Addr × Value := (x.1, x.2.1, Value.ref x.2.2)
structure NdOk (P : Program) (w : World) (a : Addr) (o : Obj) (xs : NE) : Prop where
  sys : (a == sysModules) = false
  ex : o.ExactDict
  dat : ∃ es ep, o.data = .dict es ep ∧ es.toList = (xs.map entN).map (entryOfKey (famKind P w))
  nd : (xs.map (·.1)).Nodup
  sz : xs.length ≤ sizeLine
def ndO (P : Program) (w : World) (a : Addr) (o : Obj) (xs : NE) : HO := .ext fun h => h.get? a = some o ∧ NdOk P w a o xs
/-- at a stands a dict with the entries xs (family, the key's tuple, the value's tuple), the object o -/
structure ND (P : Program) (w : World) (H : Hp) (a : Addr) (o : Obj) (xs : NE) : Prop where
  ob : H a = some (ndO P w a o xs)
  ks : ∀ x, x ∈ xs → Tq H (.ref x.2.1) (encF x.1)
theorem ND.mono {P : Program} {w : World} {H H' : Hp} {a : Addr} {o : Obj} {xs : NE} (n : ND P w H a o xs) (t : TT H H') (e : H' a = H a) : ND P w H' a o xs :=
  ⟨e.trans n.ob, fun x hx => (n.ks x hx).mono t⟩
theorem ND.same {P : Program} {w : World} {H H' : Hp} {a : Addr} {o : Obj} {xs : NE} (n : ND P w H a o xs) (s : Same H H') : ND P w H' a o xs :=
  ⟨s _ _ n.ob, fun x hx => (n.ks x hx).mono s.tt⟩
def putN (xs : NE) (F : Fam) (k v : Addr) : NE := if (xs.any fun x => decide (x.1 = F)) = true then xs.map (fun x => if x.1 = F then (x.1, x.2.1, v) else x) else xs ++ [(F, k, v)]
def getN (xs : NE) (F : Fam) : Option Addr := (xs.find? fun x => decide (x.1 = F)).map (·.2.2)
theorem atKey_N (xs : NE) (F : Fam) : (atKey (xs.map entN) F).map (·.2) = (getN xs F).map Value.ref := by
  induction xs with
  | nil => rfl
  | cons x xs ih =>
    by_cases h : x.1 = F
    · simp [atKey, getN, h]
    · simpa [atKey, getN, h] using ih
theorem any_N (xs : NE) (F : Fam) : (atKey (xs.map entN) F).isSome = xs.any fun x => decide (x.1 = F) := by
  induction xs with
  | nil => rfl
  | cons x xs ih =>
    by_cases h : x.1 = F
    · simp [atKey, h]
    · simpa [atKey, h] using ih
theorem stored_N (xs : NE) (F : Fam) (k v : Addr) : storedH (xs.map entN) F k (.ref v) = (putN xs F k v).map entN := by
  unfold storedH putN
  rw [any_N]
  split
  · rw [List.map_map, List.map_map]
    refine List.map_congr_left fun x _ => ?_
    by_cases h : x.1 = F <;> simp [putAt, h]
  · simp
theorem putN_len (xs : NE) (F : Fam) (k v : Addr) : (putN xs F k v).length ≤ xs.length + 1 := by
  unfold putN
  split <;> simp
theorem putN_mem {xs : NE} {F : Fam} {k v : Addr} {y : Fam × Addr × Addr} (h : y ∈ putN xs F k v) : (∃ v', (y.1, y.2.1, v') ∈ xs) ∨ (y.1 = F ∧ y.2.1 = k) := by
  unfold putN at h
  split at h
  · obtain ⟨x, hx, e⟩ := List.mem_map.mp h
    left
    by_cases z : x.1 = F
    · rw [if_pos z] at e
      subst e
      exact ⟨x.2.2, hx⟩
    · rw [if_neg z] at e
      subst e
      exact ⟨x.2.2, hx⟩
  · rcases List.mem_append.mp h with h | h
    · exact .inl ⟨y.2.2, h⟩
    · right
      rw [List.mem_singleton.mp h]
      exact ⟨rfl, rfl⟩

section
variable {X : Cx} {pins : List (Addr × Obj)} {σ : St} {H : Hp} {s : Shared} {a : Addr} {o : Obj} {xs : NE}
theorem ND.get (n : ND X.prog X.w H a o xs) (I : Inv X pins σ H s) : s.heap.get? a = some o ∧ NdOk X.prog X.w a o xs := (I.hok a _ n.ob).1
theorem ND.dict (n : ND X.prog X.w H a o xs) (I : Inv X pins σ H s) : s.heap.DictOfH (famKind X.prog X.w) a (xs.map entN) := by
  obtain ⟨g, k⟩ := n.get I
  obtain ⟨es, ep, h1, h2⟩ := k.dat
  refine ⟨o, es, ep, g, k.ex, h1, h2, fun x hx => ?_, ?_⟩
  · obtain ⟨y, hy, rfl⟩ := List.mem_map.mp hx
    exact nest_fam I.hok (n.ks y hy)
  · rw [List.map_map]
    exact k.nd
theorem ND.raw (n : ND X.prog X.w H a o xs) (I : Inv X pins σ H s) : ∃ es ep, o.data = .dict es ep ∧ es.size = xs.length ∧ s.heap.DictRaw a es ep ∧ ∀ i x, xs[i]? = some x → ∃ hi : i < es.size, es[i].key = .ref x.2.1 ∧ es[i].val = .ref x.2.2 := by
  obtain ⟨g, k⟩ := n.get I
  obtain ⟨es, ep, h1, h2⟩ := k.dat
  have hl := size_of_entries h2
  rw [List.length_map] at hl
  refine ⟨es, ep, h1, hl, ⟨o, g, k.ex, h1⟩, fun i x e => ?_⟩
  have hi : i < es.size := by rw [hl]; exact (List.getElem?_eq_some_iff.mp e).1
  have q := entry_at h2 i
  rw [List.getElem?_map, e, Array.getElem?_eq_getElem hi] at q
  have q' : es[i] = entryOfKey (famKind X.prog X.w) (entN x) := Option.some.inj q
  exact ⟨hi, by rw [q']; rfl, by rw [q']; rfl⟩
theorem ndO_ok {P : Program} {w : World} {H : Hp} {h : Heap} {a : Addr} {o : Obj} {xs : NE} (g : h.get? a = some o) (k : NdOk P w a o xs) : ObjOk P w H h a (ndO P w a o xs) :=
  ⟨⟨g, k⟩, ⟨o, g⟩, fun h1 h2 p st => ⟨st o p.1, p.2⟩⟩
/-- of what a rule gives -/
theorem nd_of {h : Heap} {P : Program} {w : World} (sys : (a == sysModules) = false) (sz : xs.length ≤ sizeLine) (d : h.DictOfH (famKind P w) a (xs.map entN)) : ∃ o, h.get? a = some o ∧ NdOk P w a o xs := by
  obtain ⟨o, es, ep, g, h1, h2, h3, _, h5⟩ := d
  rw [List.map_map] at h5
  exact ⟨o, g, sys, h1, ⟨es, ep, h2, h3⟩, h5, sz⟩
theorem room_N (hu : X.A.units + 10 < cLine) : (famKind X.prog X.w).room X.A.in1 := by
  show X.A.units + 1 + 8 < cLine
  omega
theorem room_N0 (hu : X.A.units + 10 < cLine) : (famKind X.prog X.w).room X.A := by
  show X.A.units + 8 < cLine
  omega
end

/-! ### {} -/
section
variable {X : Cx} {pos : Pos}
def tNew (P : Program) (w : World) : TE := fun _ H Q => ∀ p o, H p = none → Q (.ref p) (upd H p (ndO P w p o []))
theorem pe_dnewN : PE X (.Dict [] [] pos) (tNew X.prog X.w) := ⟨fun pins s σ H Q I h => by
  refine wpAny_Dict_empty ?_
  have hb : (s.heap.objs.size == sysModules) = false := by
    have := I.big
    exact beq_false_of_ne (Nat.ne_of_gt this)
  obtain ⟨o, g, k⟩ := nd_of (xs := []) hb (Nat.zero_le _) (Heap.DictOfH.new (knd := famKind X.prog X.w) s.heap)
  exact ⟨.ref s.heap.objs.size, _, I.laid (a := s.heap.objs.size) (o := ndO X.prog X.w s.heap.objs.size o []) (t' := s.toks) (fun _ _ q => Heap.get?_push_of_some _ q) (Nat.le_refl _) (ndO_ok g k), rfl, h _ o (I.hok.fresh (Nat.le_refl _))⟩⟩
end

/-! ### d[k] = v, d[k], d.get(k, x) -/
section
variable {X : Cx}
def rSetN (P : Program) (w : World) : TSet := fun o i v H Q => ∃ a ob xs F k va, o = .ref a ∧ i = .ref k ∧ v = .ref va ∧ ND P w H a ob xs ∧ Tq H (.ref k) (encF F) ∧ xs.length < sizeLine ∧ ∀ o', Q (upd H a (ndO P w a o' (putN xs F k va)))
theorem set_N (hu : X.A.units + 10 < cLine) : PSet X (rSetN X.prog X.w) := by
  intro pins s σ H o i v ov iv u Q I ro ri rv h
  obtain ⟨a, ob, xs, F, k, va, rfl, rfl, rfl, n, hk, hl, q⟩ := h
  cases ro
  cases ri
  cases rv
  obtain ⟨_, kk⟩ := n.get I
  refine wpAny_setItem_heap (hsz := by rw [List.length_map]; exact Nat.le_of_lt hl) (room_N hu) (nest_fam I.hok hk) (n.dict I) fun h' dd' hs => ?_
  rw [stored_N] at dd'
  have hz : (putN xs F k va).length ≤ sizeLine := by have := putN_len xs F k va; omega
  obtain ⟨o', g', k'⟩ := nd_of kk.sys hz dd'
  exact ⟨_, d_write I (by rw [n.ob]; exact True.intro) hs ⟨o', g'⟩ (ndO_ok g' k'), q o'⟩
def rIxN (P : Program) (w : World) : R2 := fun x y H Q => ∃ a ob xs F k va, x = .ref a ∧ y = .ref k ∧ ND P w H a ob xs ∧ Tq H (.ref k) (encF F) ∧ getN xs F = some va ∧ Q (.ref va) H
theorem atKey_some {xs : NE} {F : Fam} {va : Addr} (h : getN xs F = some va) : ∃ b, atKey (xs.map entN) F = some (b, Value.ref va) := by
  have e := atKey_N xs F
  rw [h] at e
  obtain ⟨p, hp, e2⟩ := Option.map_eq_some_iff.mp e
  exact ⟨p.1, by rw [hp, ← e2]⟩
theorem ix_N (hu : X.A.units + 10 < cLine) : IxR X (rIxN X.prog X.w) := by
  intro value slice pins s σ H x y v u Q I rx ry h hs
  obtain ⟨a, ob, xs, F, k, va, rfl, rfl, n, hk, hg, q⟩ := h
  cases rx
  cases ry
  obtain ⟨b, hb⟩ := atKey_some hg
  exact tail_any (n.dict I).typeIs slot_dict_getitem.lookup (wpAny_getItem_heap (room_N hu) (nest_fam I.hok hk) (n.dict I) hb ⟨.ref va, H, I.tok _, rfl, q⟩) hs
end
end L2.SB
/-! Dicts keyed by families: get, displays, walks, sorted. -/
namespace L2.SB
open PySem PySem.Spec PyProof.Rows Sb

section
variable {X : Cx} {o e f : Expr} {td ty tx : TE} {apos cpos pos : Pos}
/-- d.get(k, x) -/
def tGetN (P : Program) (w : World) (td ty tx : TE) : TE := fun σ H Q => td σ H fun x H1 => ∃ a ob xs, x = .ref a ∧ ND P w H1 a ob xs ∧ ty σ H1 fun y H2 => tx σ H2 fun z H3 =>
  ∃ F k, y = .ref k ∧ ND P w H3 a ob xs ∧ Tq H3 (.ref k) (encF F) ∧ Q ((getN xs F).elim z V.ref) H3
theorem pe_getN (hu : X.A.units + 10 < cLine) (ho : PE X o td) (he : PE X e ty) (hf : PE X f tx) (m : M2 X o "get" apos e f cpos) : PE X (.Call (.Attribute o "get" apos) [e, f] [] cpos) (tGetN X.prog X.w td ty tx) := by
  refine ⟨fun pins s σ H Q I h => ?_⟩
  refine wpAny_Call_method m.base m.few m.line PySem.F.plainAttrs_dict PySem.F.slot_dict_get PySem.F.type_dict_get (thn (ho.run pins s σ H _ I h) fun u s1 ⟨x, H1, I1, rx, a, ob, xs, ex, n, q1⟩ => ?_)
  subst ex
  obtain rfl : u = Value.ref a := rx
  refine ⟨(n.dict I1).typeIs, fun b q => ?_, ?_⟩
  · cases q
    obtain ⟨g, k⟩ := n.get I1
    exact ⟨ob, g, k.ex.2.1⟩
  rw [m.trees]
  refine Calls.callWith_builtin rfl (Calls.evalArgs_plain (Calls.spliced_cons (thn (he.run pins s1 σ H1 _ I1 q1) fun iv s2 ⟨y, H2, I2, ry, q2⟩ =>
    Calls.spliced_cons (thn (hf.run pins s2 σ H2 _ I2 q2) fun fv s3 ⟨z, H3, I3, rz, G, k, ey, n3, hk, q3⟩ => Calls.spliced_nil ?_))))
  subst ey
  cases ry
  obtain ⟨_, kk⟩ := n3.get I3
  refine call_meetsIn PySem.F.slot_dict_get (n3.dict I3).typeIs PySem.F.entry_dict_get (PySem.F.args_dict_get_3 _ _ _) (meetsH_dict_get_default (famKind X.prog X.w) a k kk.sys fv) ⟨room_N hu, G, xs.map entN, nest_fam I3.hok hk, n3.dict I3, ?_⟩
  rw [atKey_N]
  cases hg : getN xs G with
  | none =>
    rw [hg] at q3
    exact ⟨z, H3, I3.tok _, rz, q3⟩
  | some va =>
    rw [hg] at q3
    exact ⟨.ref va, H3, I3.tok _, rfl, q3⟩

/-- {k: v} -/
def tDispN (P : Program) (w : World) (tk tv : TE) : TE := fun σ H Q => ∀ p o0, H p = none → tk σ (upd H p (ndO P w p o0 [])) fun x H1 => tv σ H1 fun y H2 =>
  ∃ G ka va, [(x, y)] = [(V.ref ka, V.ref va)] ∧ H2 p = some (ndO P w p o0 []) ∧ Tq H2 (.ref ka) (encF G) ∧ ∀ o', Q (.ref p) (upd H2 p (ndO P w p o' [(G, ka, va)]))
theorem pe_dispN (hu : X.A.units + 10 < cLine) (hk : PE X e ty) (hv : PE X f tx) : PE X (.Dict [some e] [f] pos) (tDispN X.prog X.w ty tx) := by
  refine ⟨fun pins s σ H Q I q => ?_⟩
  have hn := I.hok.fresh (Nat.le_refl s.heap.objs.size)
  have hb : (s.heap.objs.size == sysModules) = false := by
    have := I.big
    exact beq_false_of_ne (Nat.ne_of_gt this)
  obtain ⟨o0, g, k⟩ := nd_of (xs := []) hb (Nat.zero_le _) (Heap.DictOfH.new (knd := famKind X.prog X.w) s.heap)
  have I1 := I.laid (a := s.heap.objs.size) (o := ndO X.prog X.w s.heap.objs.size o0 []) (h' := s.heap.push { cls := .type "dict", data := .dict #[] }) (t' := s.toks) (fun _ _ q => Heap.get?_push_of_some _ q) (Nat.le_refl _) (ndO_ok g k)
  have hpp := pps_cons (X := X) (pos := pos) hk hv pps_nil
  have hz := zip_pairTrees [some e] [f] X.env pos rfl rfl
  rw [arm_eval_Dict, hz, dictDisplay_pairs (pairTrees [some e] [f] X.env pos) (fun z => nomatch z) (by show 1 < 17; omega)]
  refine wpAny_bind (wpAny_standAt (wpAny_bind (wpAny_subDictH (knd := famKind X.prog X.w) (Q := fun d s' => wpAny (model X.prog X.w) X.A (pure (Value.ref d)) _ X.xe s') (room_N0 hu) (by show 1 ≤ 15; omega) ?_)))
  refine thn (hpp.run pins _ σ _ (fun ps H2 => ∃ G ka va, ps = [(V.ref ka, V.ref va)] ∧ H2 s.heap.objs.size = some (ndO X.prog X.w s.heap.objs.size o0 []) ∧ Tq H2 (.ref ka) (encF G) ∧ ∀ o', Q (.ref s.heap.objs.size) (upd H2 s.heap.objs.size (ndO X.prog X.w s.heap.objs.size o' [(G, ka, va)]))) I1 (q s.heap.objs.size o0 hn)) fun ws s2 ⟨ps, H2, I2, rel, G, ka, va, ep, e2, hq, q2⟩ => ?_
  · subst ep
    have nd2 : ND X.prog X.w H2 s.heap.objs.size o0 [] := ⟨e2, fun _ h => nomatch h⟩
    cases rel with
    | @cons _ b _ bs h t =>
      cases t
      obtain ⟨b1, b2⟩ := b
      obtain ⟨h1, h2⟩ := h
      cases h1
      cases h2
      refine ⟨[(G, ka, Value.ref va)], ⟨rfl, rfl, nest_fam I2.hok hq, True.intro⟩, nd2.dict I2, fun h' tk dd hs => ?_⟩
      have dd' : h'.DictOfH (famKind X.prog X.w) s.heap.objs.size (([(G, ka, va)] : NE).map entN) := dd
      obtain ⟨o', g', k'⟩ := nd_of hb (by show 1 ≤ sizeLine; decide) dd'
      exact wpAny_pure ⟨.ref s.heap.objs.size, _, d_write I2 (by rw [e2]; exact True.intro) hs ⟨o', g'⟩ (ndO_ok g' k'), rfl, q2 o'⟩
end
end L2.SB
/-! Dicts keyed by families: walks over keys and items. -/
namespace L2.SB
open PySem PySem.Spec PyProof.Rows Sb

theorem NdOk.ent {P : Program} {w : World} {a : Addr} {o : Obj} {xs : NE} (k : NdOk P w a o xs) {es : Array DictEntry} {ep : Nat} (hod : o.data = .dict es ep) :
    es.size = xs.length ∧ ∀ i y, xs[i]? = some y → ∃ hi : i < es.size, es[i].key = .ref y.2.1 ∧ es[i].val = .ref y.2.2 := by
  obtain ⟨es', ep', h1, h2⟩ := k.dat
  obtain ⟨rfl, rfl⟩ := dict_ep hod h1
  have hl := size_of_entries h2
  rw [List.length_map] at hl
  refine ⟨hl, fun i x e => ?_⟩
  have hi : i < es'.size := by rw [hl]; exact (List.getElem?_eq_some_iff.mp e).1
  have q := entry_at h2 i
  rw [List.getElem?_map, e, Array.getElem?_eq_getElem hi] at q
  have q' : es'[i] = entryOfKey (famKind P w) (entN x) := Option.some.inj q
  exact ⟨hi, by rw [q']; rfl, by rw [q']; rfl⟩

def Itkn (P : Program) (w : World) (d : Addr) (o : Obj) (xs : NE) : It :=
  ⟨fun i H => H d = some (ndO P w d o xs) ∧ i < xs.length, fun i H x H' => H' = H ∧ ∃ y, xs[i]? = some y ∧ x = .ref y.2.1, fun i H => H d = some (ndO P w d o xs) ∧ xs.length ≤ i⟩
def Itin (P : Program) (w : World) (d : Addr) (o : Obj) (xs : NE) : It :=
  ⟨fun i H => H d = some (ndO P w d o xs) ∧ i < xs.length, fun i H x H' => ∃ T y, xs[i]? = some y ∧ x = .ref T ∧ H T = none ∧ H' = upd H T (.tup [.ref y.2.1, .ref y.2.2]), fun i H => H d = some (ndO P w d o xs) ∧ xs.length ≤ i⟩
section
variable {P : Program} {w : World} {K : PySem.W.Frag} {tg : Expr} {d : Addr} {o : Obj} {es : Array DictEntry} {ep : Nat} {xs : NE}
theorem walk_keysN : Walk (Itkn P w d o xs) xs.length (fun H => H d = some (ndO P w d o xs)) (fun i H x H' => H' = H ∧ ∃ y, xs[i]? = some y ∧ x = .ref y.2.1) :=
  ⟨fun _ _ hi q => ⟨q, hi⟩, fun _ q => ⟨q, Nat.le_refl _⟩, fun _ _ _ _ _ _ y => y⟩
theorem walk_itemsN : Walk (Itin P w d o xs) xs.length (fun H => H d = some (ndO P w d o xs)) (fun i H x H' => ∃ T y, xs[i]? = some y ∧ x = .ref T ∧ H T = none ∧ H' = upd H T (.tup [.ref y.2.1, .ref y.2.2])) :=
  ⟨fun _ _ hi q => ⟨q, hi⟩, fun _ q => ⟨q, Nat.le_refl _⟩, fun _ _ _ _ _ _ y => y⟩
theorem turn_keysN (it : Addr) (hod : o.data = .dict es ep) : Turn P w K tg (Itkn P w d o xs) [it] it (fun i h => h.IsKeyIter it d i xs.length ep) where
  mem := by simp
  obj := fun i h st b hb => by
    have e : b = it := by simpa using hb
    subst e
    obtain ⟨oi, e, c, dd⟩ := st
    exact ⟨oi, e, fun v z => by rw [dd] at z; cases z⟩
  keep := fun i h h' st k => st.at fun oi e => k it (by simp) oi e
  item := by
    intro X hP hw hK hc i pins s σ H E I hf st hg
    subst hP hw hK
    obtain ⟨hd, hi⟩ := hg
    obtain ⟨f0, f1, f2, f3, f4, f5⟩ := hf it (by simp)
    obtain ⟨hgd, kk⟩ := (I.hok d _ hd).1
    obtain ⟨hsz, ent⟩ := kk.ent hod
    obtain ⟨y, hy⟩ : ∃ y, xs[i]? = some y := ⟨xs[i], List.getElem?_eq_getElem hi⟩
    obtain ⟨hie, hkey, _⟩ := ent i y hy
    refine next_key_item st hgd hod hsz (Array.getElem?_eq_getElem hie) fun h' st' sb => ?_
    have I1 : Inv X pins σ H { s with heap := h' } := I.turned (t' := s.toks) (fun b ob hb e => (sb.2 b hb).trans e) f0 f1 f3 f4 f5
    obtain ⟨oi, e, c, dd⟩ := id st'
    exact ⟨es[i].key, rfl, go_of (s := { s with heap := h' }) e c dd (by decide) ⟨.ref y.2.1, H, I1, hkey, ⟨rfl, y, hy, rfl⟩, st', fun b hb => (hf b hb).1⟩⟩
  done := by
    intro X hP hw hK hc i pins s σ H E I hf st hg
    subst hP hw hK
    obtain ⟨hd, hi⟩ := hg
    obtain ⟨f0, f1, f2, f3, f4, f5⟩ := hf it (by simp)
    obtain ⟨hgd, kk⟩ := (I.hok d _ hd).1
    obtain ⟨hsz, ent⟩ := kk.ent hod
    exact next_key_end (I.ok.hd hc) st hgd hod hsz hi fun h' eb => ⟨rfl, I.turned (t' := s.toks) (fun b ob hb e => eb b ob hb e) f0 f1 f3 f4 f5⟩
  self := fun A i s Q E st h => by
    refine wpAny_pyIter_slot st.typeIs PySem.F.slot_dict_keyiterator_iter (wpAny_call_entry PySem.F.slot_dict_keyiterator_iter st.typeIs PySem.F.entry_dict_keyiterator_iter ?_ (PySem.F.args_dict_keyiterator_iter_1 _))
    show wpAny _ _ (ret (.ref it)) _ _ s
    exact wpAny_pure ⟨_, rfl, "dict_keyiterator", _, st.typeIs, PySem.F.slot_dict_keyiterator_next.lookup, h⟩
theorem turn_itemsN {elts : List Expr} {kk : Nat} {tpos : Pos} (it : Addr) (hod : o.data = .dict es ep) :
    Turn P w K (.Tuple elts kk tpos) (Itin P w d o xs) [it] it (fun i h => ∃ ok ov, IsItemIter h it d i xs.length ep ok ov) where
  mem := by simp
  obj := fun i h st b hb => by
    have e : b = it := by simpa using hb
    subst e
    obtain ⟨ok, ov, e⟩ := st
    exact ⟨_, e, fun v z => nomatch z⟩
  keep := fun i h h' st k => let ⟨ok, ov, e⟩ := st; ⟨ok, ov, k it (by simp) _ e⟩
  item := by
    intro X hP hw hK hc i pins s σ H E I hf st hg
    subst hP hw hK
    obtain ⟨hd, hi⟩ := hg
    obtain ⟨hgd, kk⟩ := (I.hok d _ hd).1
    obtain ⟨hsz, ent⟩ := kk.ent hod
    obtain ⟨y, hy⟩ : ∃ y, xs[i]? = some y := ⟨xs[i], List.getElem?_eq_getElem hi⟩
    obtain ⟨hie, hkey, hval⟩ := ent i y hy
    obtain ⟨ok, ov, he⟩ := st
    rw [← hsz] at he
    have hlt : it < s.heap.objs.size := Heap.lt_size he
    refine wpAny_pyNext_items_item_raw he ⟨o, hgd, kk.ex, hod⟩ hie fun h' ho hT hz hk => ?_
    refine ⟨_, rfl, wpAny_letOwnedTupleGo_items (s := { s with heap := h' }) ho fun h'' he' sb => ?_⟩
    have hT2 : h''.get? s.heap.objs.size = some { cls := .type "tuple", data := .seq #[Value.ref y.2.1, Value.ref y.2.2] } := by
      rw [← hkey, ← hval]
      exact (sb.2 _ (Nat.ne_of_gt hlt)).trans hT
    have new : ObjOk X.prog X.w (upd H s.heap.objs.size (.tup [.ref y.2.1, .ref y.2.2])) h'' s.heap.objs.size (.tup [.ref y.2.1, .ref y.2.2]) :=
      ⟨by show 2 ≤ sizeLine; decide, [Value.ref y.2.1, Value.ref y.2.2], .cons rfl (.cons rfl .nil), ⟨_, hT2, rfl, _, rfl⟩⟩
    have I1 : Inv X pins σ (upd H s.heap.objs.size (.tup [.ref y.2.1, .ref y.2.2])) { s with heap := h'' } :=
      I.turnedNew (t' := s.toks) (ch := [it]) (fun b ob hb e => (sb.2 b (by simpa using hb)).trans (hk b ob (by simpa using hb) e)) hf (Nat.le_refl _) new
    refine ⟨.ref s.heap.objs.size, _, I1, rfl, ⟨_, y, hy, rfl, I.hok.fresh (Nat.le_refl _), rfl⟩, ⟨es[i].key, es[i].val, ?_⟩, fun b hb => ?_⟩
    · rw [← hsz]; exact he'
    · have e : b = it := by simpa using hb
      rw [e, upd_ne (Nat.ne_of_lt hlt)]
      exact (hf it (by simp)).1
  done := by
    intro X hP hw hK hc i pins s σ H E I hf st hg
    subst hP hw hK
    obtain ⟨hd, hi⟩ := hg
    obtain ⟨f0, f1, f2, f3, f4, f5⟩ := hf it (by simp)
    obtain ⟨hgd, kk⟩ := (I.hok d _ hd).1
    obtain ⟨hsz, ent⟩ := kk.ent hod
    obtain ⟨ok, ov, he⟩ := st
    rw [← hsz] at he
    exact wpAny_pyNext_items_end_raw (I.ok.hd hc) he ⟨o, hgd, kk.ex, hod⟩ (by rw [hsz]; exact hi) fun h' eb => ⟨rfl, I.turned (t' := s.toks) (fun b ob hb e => eb b ob hb e) f0 f1 f3 f4 f5⟩
  self := fun A i s Q E st h => let ⟨_, _, e⟩ := st; PySem.W.kcp_self e h
end

/-! ### for k in d, for k, v in d.items() -/
def iKeysN (P : Program) (w : World) (td : TE) : TI := fun σ H R => td σ H fun x H1 => ∃ d o xs, x = .ref d ∧ H1 d = some (ndO P w d o xs) ∧ R (Itkn P w d o xs) H1
def iItemsN (P : Program) (w : World) (td : TE) : TI := fun σ H R => td σ H fun x H1 => ∃ d o xs, x = .ref d ∧ H1 d = some (ndO P w d o xs) ∧ R (Itin P w d o xs) H1
section
variable {X : Cx} {tg e : Expr} {td : TE} {apos cpos : Pos}
theorem pi_keysN (he : PE X e td) : PI X tg e (iKeysN X.prog X.w td) := by
  refine ⟨fun pins s σ H R I h => ?_⟩
  refine thn (he.run pins s σ H _ I h) fun u s1 ⟨x, H1, I1, rx, d, o, xs, ex, hd, q⟩ => ?_
  subst ex
  obtain rfl : u = Value.ref d := rx
  obtain ⟨hgd, kk⟩ := (I1.hok d _ hd).1
  obtain ⟨es, ep, hod, _⟩ := kk.dat
  obtain ⟨hsz, ent⟩ := kk.ent hod
  refine iter_keys kk.sys hgd kk.ex hod (pi_one (tk := s1.toks) I1 _ (turn_keysN _ hod) ⟨_, Heap.get?_push_size _ rfl, rfl, ?_⟩ q)
  rw [hsz] <;> rfl
theorem pi_itemsN {elts : List Expr} {kz : Nat} {tpos : Pos} (he : PE X e td) (hbase : attributeBase e "items" X.env (eval e X.env) = eval e X.env := by rfl) (hline : (apos.endLine == cpos.line) = true := by rfl) :
    PI X (.Tuple elts kz tpos) (.Call (.Attribute e "items" apos) [] [] cpos) (iItemsN X.prog X.w td) := by
  refine ⟨fun pins s σ H R I h => ?_⟩
  refine wpAny_Call_method (T := "dict") (id := "dict.items") hbase rfl hline PySem.F.plainAttrs_dict PySem.F.slot_dict_items PySem.F.type_dict_items (thn (he.run pins s σ H _ I h) fun u s1 ⟨x, H1, I1, rx, d, o, xs, ex, hd, q⟩ => ?_)
  subst ex
  obtain rfl : u = Value.ref d := rx
  obtain ⟨hgd, kk⟩ := (I1.hok d _ hd).1
  obtain ⟨es, ep, hod, _⟩ := kk.dat
  obtain ⟨hsz, ent⟩ := kk.ent hod
  have hraw : s1.heap.DictRaw d es ep := ⟨o, hgd, kk.ex, hod⟩
  refine ⟨hraw.typeIs, fun b q => ?_, ?_⟩
  · cases q
    exact ⟨o, hgd, kk.ex.2.1⟩
  have I2 : Inv X pins σ H1 { s1 with heap := s1.heap.push { cls := .type "dict_items", data := .fields #[.ref d] } } := I1.kept (t' := s1.toks) fun b ob q => Heap.get?_push_of_some _ q
  have fin : wpAny (model X.prog X.w) X.A (pyIter (.ref s1.heap.objs.size)) (PIE X pins σ (.Tuple elts kz tpos) R) X.xe { s1 with heap := s1.heap.push { cls := .type "dict_items", data := .fields #[.ref d] } } := by
    refine wpAny_pyIter_items_raw (d := d) ⟨_, Heap.get?_push_size _ rfl, rfl, rfl⟩ (hraw.at fun o q => Heap.get?_push_of_some _ q) (pi_one (tk := s1.toks) I2 _ (turn_itemsN _ hod) ⟨.none, .none, ?_⟩ q)
    rw [← hsz]
    exact Heap.get?_push_size _ rfl
  show wpAny _ _ (callWith cpos (.builtin "dict.items") [.ref d] [] []) _ X.xe s1
  exact method_meetsIn PySem.F.slot_dict_items PySem.F.entry_dict_items rfl (PySem.evalArgs_none ⟨rfl, hraw.typeIs, PySem.F.args_dict_items_1 _, _, meets_dict_items_raw d kk.sys, ⟨es, ep, hraw⟩, fin⟩)
/-- d.items() as a value -/
def tItemsN (P : Program) (w : World) (td : TE) : TE := fun σ H Q => td σ H fun x H1 => ∃ d o xs, x = .ref d ∧ H1 d = some (ndO P w d o xs) ∧ ∀ p, H1 p = none → Q (.ref p) (upd H1 p (L2.DX.itemsO p d))
theorem pe_itemsN (he : PE X e td) (hbase : attributeBase e "items" X.env (eval e X.env) = eval e X.env := by rfl) (hline : (apos.endLine == cpos.line) = true := by rfl) :
    PE X (.Call (.Attribute e "items" apos) [] [] cpos) (tItemsN X.prog X.w td) := by
  refine ⟨fun pins s σ H Q I h => ?_⟩
  refine wpAny_Call_method (T := "dict") (id := "dict.items") hbase rfl hline PySem.F.plainAttrs_dict PySem.F.slot_dict_items PySem.F.type_dict_items (thn (he.run pins s σ H _ I h) fun u s1 ⟨x, H1, I1, rx, d, o, xs, ex, hd, q⟩ => ?_)
  subst ex
  obtain rfl : u = Value.ref d := rx
  obtain ⟨hgd, kk⟩ := (I1.hok d _ hd).1
  obtain ⟨es, ep, hod, _⟩ := kk.dat
  have hraw : s1.heap.DictRaw d es ep := ⟨o, hgd, kk.ex, hod⟩
  refine ⟨hraw.typeIs, fun b q => ?_, ?_⟩
  · cases q
    exact ⟨o, hgd, kk.ex.2.1⟩
  show wpAny _ _ (callWith cpos (.builtin "dict.items") [.ref d] [] []) _ X.xe s1
  have hf : H1 s1.heap.objs.size = none := I1.hok.fresh (Nat.le_refl _)
  exact method_meetsIn PySem.F.slot_dict_items PySem.F.entry_dict_items rfl (PySem.evalArgs_none ⟨rfl, hraw.typeIs, PySem.F.args_dict_items_1 _, _, meets_dict_items_raw d kk.sys, ⟨es, ep, hraw⟩,
    ⟨.ref s1.heap.objs.size, _, I1.laid (t' := s1.toks) (fun b u e => Heap.get?_push_of_some _ e) (Nat.le_refl _) (L2.DX.itemsO_ok (Heap.get?_push_size _ rfl)), rfl, q _ hf⟩⟩)
end
end L2.SB
/-! sorted, of lists, of a dict's keys, of a dict's items. -/
namespace L2.SB
open PySem PySem.Spec PyProof.Rows Sb
open PySem.W (EachIs AllAlike Sortable dataLe alike)

section
variable {β : Type} {enc : β → PyData} {H : Hp}
/-- the value stands for the datum -/
def Stands (H : Hp) (enc : β → PyData) (u : Value) (b : β) : Prop := ∃ x, RelV x u ∧ Tq H x (enc b)
theorem stands_of : ∀ {xs : List V} {us : List Value} {bs : List β}, Vals xs us → Tqs H xs (bs.map enc) → EachIs (Stands H enc) us bs
  | [], _, [], .nil, _ => .nil
  | [], _, b :: bs, .nil, q => nomatch q
  | x :: xs, _, [], _, q => nomatch q
  | x :: xs, _, b :: bs, .cons r t, q => by
    cases q with
    | cons h1 q => exact .cons ⟨x, r, h1⟩ (stands_of t q)
theorem of_stands : ∀ {us : List Value} {bs : List β}, EachIs (Stands H enc) us bs → ∃ xs, Vals xs us ∧ Tqs H xs (bs.map enc)
  | _, _, .nil => ⟨[], .nil, .nil⟩
  | _, _, .cons ⟨x, r, h⟩ t => by
    obtain ⟨xs, h1, h2⟩ := of_stands t
    exact ⟨x :: xs, .cons r h1, .cons h h2⟩
mutual
theorem Tq.reads0 {X : Cx} {pins : List (Addr × Obj)} {σ : St} {s : Shared} (I : Inv X pins σ H s) : ∀ {d : PyData} {v : V} {u : Value}, Tq H v d → RelV v u → Reads s.heap u d []
  | _, _, _, .int i, r => by
    obtain ⟨t, rfl⟩ := r
    exact .int i t
  | _, _, _, .tup (a := a) (xs := xs) h q, r => by
    cases r
    obtain ⟨_, its, rv, o, h1, h2, n, h3⟩ := (show ObjOk X.prog X.w H s.heap a (.tup xs) from I.hok a _ h)
    exact .tuple h1 h2 h3 (Tqs.reads0 I q rv)
theorem Tqs.reads0 {X : Cx} {pins : List (Addr × Obj)} {σ : St} {s : Shared} (I : Inv X pins σ H s) : ∀ {ds : List PyData} {vs : List V} {us : List Value}, Tqs H vs ds → Vals vs us → ReadsAll s.heap us ds []
  | _, _, _, .nil, .nil => .nil
  | _, _, _, .cons h q, .cons r t => .cons (as := []) (bs := []) (Tq.reads0 I h r) (Tqs.reads0 I q t)
end
theorem stands_reads0 {X : Cx} {pins : List (Addr × Obj)} {σ : St} {s : Shared} (I : Inv X pins σ H s) {us : List Value} {bs : List β} (e : EachIs (Stands H enc) us bs) : EachIs (fun v b => Reads s.heap v (enc b) []) us bs :=
  e.mono fun u b ⟨x, r, h⟩ => Tq.reads0 I h r
theorem stands_reads {X : Cx} {pins : List (Addr × Obj)} {σ : St} {s : Shared} (I : Inv X pins σ H s) {us : List Value} {bs : List β} (e : EachIs (Stands H enc) us bs) : EachIs (fun v b => ∃ as, Reads s.heap v (enc b) as) us bs :=
  e.mono fun u b ⟨x, r, h⟩ => Dp.reads I _ _ _ (h.dp (K := X.K)) r
end
theorem alike_all {β : Type} {enc : β → PyData} (h : ∀ b c, alike (enc b) (enc c) = true) (bs : List β) : AllAlike (bs.map enc) := PySem.W.AllAlike.of h

section
variable {X : Cx} {β : Type}
/-- sorted(xs), xs a list of data -/
def rSortD (K : PySem.W.Frag) (enc : β → PyData) : List V → Hp → VK → Prop := fun vs H Q => ∃ (l : Addr) (xs : List V) (bs : List β), vs = [V.ref l] ∧ SqL K H l xs ∧ Tqs H xs (bs.map enc) ∧ Sortable (bs.map enc) ∧
  ∀ (ys : List V) (p : Addr), Tqs H ys ((bs.mergeSort (dataLe false enc)).map enc) → H p = none → Q (.ref p) (upd H p (.lst ys))
theorem cr_sortD (enc : β → PyData) (hal : ∀ b c, alike (enc b) (enc c) = true) (hd : ∀ b, (enc b).depth ≤ 8) (hu : X.A.units + 10 < cLine) : CallR X (.builtin "sorted") (rSortD X.K enc) := by
  intro pins s σ H vs us Q I r h
  obtain ⟨l, xs, bs, rfl, hq, ht, hs, q⟩ := h
  rw [Vals.ref1 r]
  obtain ⟨its, rv, p1, hz⟩ := I.list hq
  have e := stands_of rv ht
  have hl : its.length = bs.length := e.length
  refine PySem.W.sorted_data (R := Stands H enc) p1.isList e (stands_reads I e) (alike_all hal bs) hs (by rw [← hl, ← rv.length]; exact hz) (fun b _ => by have := hd b; omega) fun out ho eo => ?_
  obtain ⟨ys, h1, h2⟩ := of_stands eo
  have hn : H (s.heap.objs.size + 1) = none := I.hok.fresh (Nat.le_succ _)
  obtain ⟨en, hen⟩ := sortedAll_at s.heap its out.toArray
  have hle : ys.length ≤ sizeLine := by rw [h1.length, ho, ← hl, ← rv.length]; exact hz
  exact ⟨.ref (s.heap.objs.size + 1), upd H (s.heap.objs.size + 1) (.lst ys), I.laid (t' := s.toks) (fun b u e => sortedAll_old e) (Nat.le_succ _) ⟨hle, out, en, h1, hen⟩, rfl, q ys _ h2 hn⟩

/-- sorted(d), d a dict keyed by families -/
def rSortK (P : Program) (w : World) : List V → Hp → VK → Prop := fun vs H Q => ∃ (d : Addr) (o : Obj) (xs : NE), vs = [V.ref d] ∧ ND P w H d o xs ∧ (∀ x, x ∈ xs → x.1 ≠ []) ∧
  ∀ (ys : List V) (p : Addr), Tqs H ys (((xs.map (·.1)).mergeSort (dataLe false encF)).map encF) → H p = none → Q (.ref p) (upd H p (.lst ys))
theorem sortable_F {Fs : List Fam} (h : ∀ F, F ∈ Fs → F ≠ []) : Sortable (Fs.map encF) := .inl fun d hd => by
  obtain ⟨F, hF, rfl⟩ := List.mem_map.mp hd
  cases F with
  | nil => exact absurd rfl (h _ hF)
  | cons b F => exact ⟨encB b, F.map encB, rfl⟩
theorem sorted_behind {T : Sem Value} {Q : Value → Shared → Prop} {A : Around} {E : Value → Shared → Prop} {s : Shared} {P : Program} {w : World} {D : Addr}
    (hg : wpAny (model P w) A (call (.builtin "list.sort") [.ref D]) (fun _ s' => Q (.ref D) s') E s) (hT : T = (do let _ ← call (.builtin "list.sort") [.ref D]; pure (.ref D))) : wpAny (model P w) A T Q E s := by
  rw [hT]
  exact wpAny_bind (wpAny_mono hg (fun _ s' x => wpAny_pure x) fun _ _ e => e)
theorem cr_sortK (hc : X.calm = true) (hu : X.A.units + 14 < cLine) : CallR X (.builtin "sorted") (rSortK X.prog X.w) := by
  intro pins s σ H vs us Q I r h
  obtain ⟨d, o, xs, rfl, n, hne, q⟩ := h
  rw [Vals.ref1 r]
  obtain ⟨hgd, kk⟩ := n.get I
  obtain ⟨es, ep, hod, _⟩ := kk.dat
  obtain ⟨hsz, ent⟩ := kk.ent hod
  have hraw : s.heap.DictRaw d es ep := ⟨o, hgd, kk.ex, hod⟩
  refine Calls.call_function_entry kind_sorted plain_sorted entry_sorted (args_sorted1 _) ?_
  unfold Builtin.«sorted»
  refine wpAny_bind (m := checkCount "sorted" 1 1 _) (wpAny_pure ?_)
  refine wpAny_bind (PySem.W.kdu_collect (A := X.A.in1) (KdlSrc.rawDict (prog := X.prog) (w := X.w) (es := es) (ep := ep) kk.sys) (I.ok.hd hc) hraw (by rw [hsz]; exact kk.sz) fun h' tk acc hk hacc => ?_)
  have hal : acc.toList.length = xs.length := by rw [Array.length_toList, hacc.1, hsz]
  have hE : EachIs (Stands H encF) acc.toList (xs.map (·.1)) := by
    refine EachIs.of_zip (by rw [hal, List.length_map]) fun p hp => ?_
    obtain ⟨j, hj⟩ := List.mem_iff_getElem?.mp hp
    obtain ⟨h1, h2⟩ := List.getElem?_zip_eq_some.mp hj
    obtain ⟨hi, e1⟩ := hacc.2 j p.1 (by rw [← Array.getElem?_toList]; exact h1)
    rw [List.getElem?_map] at h2
    obtain ⟨x, hx, e2⟩ := Option.map_eq_some_iff.mp h2
    obtain ⟨_, e3, _⟩ := ent j x hx
    refine ⟨.ref x.2.1, by rw [e1, e3]; exact rfl, ?_⟩
    rw [← e2]
    exact n.ks x (List.mem_of_getElem? hx)
  have I1 : Inv X pins σ H { s with heap := h', toks := tk } := I.kept hk
  refine wpAny_bind (wpAny_newList ?_ (by rw [hal]; exact kk.sz))
  have hoL : (h'.push (seqObj "list" acc.toList.toArray 0)).get? h'.objs.size = some (seqObj "list" acc.toList.toArray 0) := Heap.get?_push_size _ rfl
  have I2 : Inv X pins σ H { s with heap := h'.push (seqObj "list" acc.toList.toArray 0), toks := tk } := I1.kept (h' := h'.push (seqObj "list" acc.toList.toArray 0)) (t' := tk) fun b u e => Heap.get?_push_of_some _ e
  have er := stands_reads0 I1 hE
  have er' : EachIs (fun v b => ∃ as, Reads (h'.push (seqObj "list" acc.toList.toArray 0)) v (encF b) as ∧ h'.objs.size ∉ as) acc.toList (xs.map (·.1)) := by
    exact er.mono fun v b hr => ⟨[], PyProof.Rows.Reads.keeps (fun b o e => Heap.get?_push_of_some _ e) hr, (fun z => nomatch z)⟩
  show wpAny _ _ _ _ _ { s with heap := h'.push (seqObj "list" acc.toList.toArray 0), toks := tk }
  refine wpAny_bind (wpAny_holding (PySem.W.list_sort_data (s := { s with heap := h'.push (seqObj "list" acc.toList.toArray 0), toks := tk }) (R := Stands H encF) hoL hE er' (alike_all alike_F _) (sortable_F fun F hF => ?_) (by rw [List.length_map]; exact kk.sz) (fun b _ => by have := depth_F b; show X.A.units + 1 + 1 + (encF b).depth < cLine; omega) fun out ho eo => ?_))
  · obtain ⟨x, hx, rfl⟩ := List.mem_map.mp hF
    exact hne x hx
  obtain ⟨ys, h1, h2⟩ := of_stands eo
  obtain ⟨en, hen⟩ := sortedHeap_at (vs := acc.toList) (out := out.toArray) hoL
  have hle : ys.length ≤ sizeLine := by rw [h1.length, ho, List.length_map]; exact kk.sz
  refine wpAny_pure ⟨_, rfl, .ref h'.objs.size, upd H h'.objs.size (.lst ys), I1.laid (t' := tk) (fun b u e => ?_) (Nat.le_refl _) ⟨hle, out, en, h1, hen⟩, rfl, q ys _ h2 (I1.hok.fresh (Nat.le_refl _))⟩
  exact (sortedHeap_old (Nat.ne_of_lt (Heap.lt_size e)) (Nat.lt_trans (Heap.lt_size e) (Heap.lt_size hoL))).trans (Heap.get?_push_of_some _ e)
end
end L2.SB
/-! sorted(d.items()). -/
namespace L2.SB
open PySem PySem.Spec PyProof.Rows Sb
open PySem.W (EachIs AllAlike Sortable dataLe alike)

/-- an entry stands for a family and its ratio -/
def VR (H : Hp) (x : Fam × Addr × Addr) (y : Fam × Rat2) : Prop := x.1 = y.1 ∧ Tq H (.ref x.2.2) (encR y.2)
/-- at d stands the dict of the pairs L -/
structure DR (P : Program) (w : World) (H : Hp) (d : Addr) (o : Obj) (xs : NE) (L : List (Fam × Rat2)) : Prop where
  nd : ND P w H d o xs
  rel : Paired (VR H) xs L
theorem _root_.PySem.Paired.monoP {α β : Type} {R S : α → β → Prop} {xs : List α} {ys : List β} (q : Paired R xs ys) (h : ∀ a b, R a b → S a b) : Paired S xs ys := by
  induction q with
  | nil => exact .nil
  | cons r _ ih => exact .cons (h _ _ r) ih
theorem _root_.PySem.Paired.lenP {α β : Type} {R : α → β → Prop} {xs : List α} {ys : List β} (q : Paired R xs ys) : xs.length = ys.length := by
  induction q with
  | nil => rfl
  | cons _ _ ih => rw [List.length_cons, List.length_cons, ih]
theorem _root_.PySem.Paired.getP {α β : Type} {R : α → β → Prop} {xs : List α} {ys : List β} (q : Paired R xs ys) : ∀ {i : Nat} {x : α}, xs[i]? = some x → ∃ y, ys[i]? = some y ∧ R x y := by
  induction q with
  | nil => intro i x e; simp at e
  | cons r _ ih =>
    intro i x e
    cases i with
    | zero => simp at e; subst e; exact ⟨_, rfl, r⟩
    | succ i =>
      obtain ⟨v, h1, h2⟩ := ih (i := i) (by simpa using e)
      exact ⟨v, by simpa using h1, h2⟩
theorem _root_.PySem.Paired.getQ {α β : Type} {R : α → β → Prop} {xs : List α} {ys : List β} (q : Paired R xs ys) : ∀ {i : Nat} {y : β}, ys[i]? = some y → ∃ x, xs[i]? = some x ∧ R x y := by
  induction q with
  | nil => intro i x e; simp at e
  | cons r _ ih =>
    intro i x e
    cases i with
    | zero => simp at e; subst e; exact ⟨_, rfl, r⟩
    | succ i =>
      obtain ⟨v, h1, h2⟩ := ih (i := i) (by simpa using e)
      exact ⟨v, by simpa using h1, h2⟩
theorem DR.same {P : Program} {w : World} {H H' : Hp} {d : Addr} {o : Obj} {xs : NE} {L : List (Fam × Rat2)} (n : DR P w H d o xs L) (s : Same H H') : DR P w H' d o xs L :=
  ⟨n.nd.same s, n.rel.monoP fun _ _ h => ⟨h.1, h.2.mono s.tt⟩⟩
theorem DR.mono {P : Program} {w : World} {H H' : Hp} {d : Addr} {o : Obj} {xs : NE} {L : List (Fam × Rat2)} (n : DR P w H d o xs L) (t : TT H H') (e : H' d = H d) : DR P w H' d o xs L :=
  ⟨n.nd.mono t e, n.rel.monoP fun _ _ h => ⟨h.1, h.2.mono t⟩⟩
theorem DR.keys {P : Program} {w : World} {H : Hp} {d : Addr} {o : Obj} {xs : NE} {L : List (Fam × Rat2)} (n : DR P w H d o xs L) : xs.map (·.1) = L.map (·.1) := by
  have h := n.rel
  clear n
  induction h with
  | nil => rfl
  | cons r _ ih => rw [List.map_cons, List.map_cons, ih, r.1]

section
variable {X : Cx}
def rSortIN (P : Program) (w : World) : List V → Hp → VK → Prop := fun vs H Q => ∃ (p d : Addr) (o : Obj) (xs : NE) (L : List (Fam × Rat2)), vs = [V.ref p] ∧ H p = some (L2.DX.itemsO p d) ∧ DR P w H d o xs L ∧
  ∀ (H' : Hp) (l : Addr) (ys : List V), Same H H' → H l = none → H' l = some (.lst ys) → Tqs H' ys ((L.mergeSort (dataLe false encI)).map encI) → Q (.ref l) H'
theorem cr_sortIN (hc : X.calm = true) (hu : X.A.units + 14 < cLine) : CallR X (.builtin "sorted") (rSortIN X.prog X.w) := by
  intro pins s σ H vs us Q I r h
  obtain ⟨p, d, o, xs, L, rfl, hp, n, q⟩ := h
  rw [Vals.ref1 r]
  have view : s.heap.IsItemsView p d := (show ObjOk X.prog X.w H s.heap p (L2.DX.itemsO p d) from I.hok p _ hp).1
  obtain ⟨hgd, kk⟩ := n.nd.get I
  obtain ⟨es, ep, hod, _⟩ := kk.dat
  obtain ⟨hsz, ent⟩ := kk.ent hod
  have hLx := n.rel.lenP
  refine DT.sortedI (es := es) (ep := ep) (I.ok.hd hc) view ⟨o, hgd, kk.ex, hod⟩ (by rw [hsz]; exact kk.sz) fun h' tk as hk hlt hl hG => ?_
  have lak : as.length = xs.length := by omega
  have nd : as.Nodup := List.Pairwise.imp (fun h => Nat.ne_of_lt h) hG.rise
  have pr : ∀ (j : Nat) (b : Addr), as[j]? = some b → ∃ x, xs[j]? = some x ∧ h'.get? b = some { cls := .type "tuple", data := .seq #[Value.ref x.2.1, Value.ref x.2.2] } := by
    intro j b hj
    obtain ⟨en, he, hg⟩ := hG.pairs j b hj
    have hjl : j < xs.length := by rw [← lak]; exact (List.getElem?_eq_some_iff.mp hj).1
    obtain ⟨hi, e1, e2⟩ := ent j xs[j] (List.getElem?_eq_getElem hjl)
    rw [Array.getElem?_eq_getElem hi] at he
    have e3 : es[j] = en := Option.some.inj he
    rw [← e3, e1, e2] at hg
    exact ⟨xs[j], List.getElem?_eq_getElem hjl, hg⟩
  have I1 : Inv X pins σ H { s with heap := h', toks := tk } := I.kept hk
  obtain ⟨H2, I2, g, qt⟩ := L2.DX.takeT (P := fun b vs => ∃ (j : Nat) (x : Fam × Addr × Addr), as[j]? = some b ∧ xs[j]? = some x ∧ vs = [V.ref x.2.1, V.ref x.2.2]) I as H I1 nd fun b hb => by
    obtain ⟨j, hj⟩ := List.mem_iff_getElem?.mp hb
    obtain ⟨x, hx, hg⟩ := pr j b hj
    have hbl : s.heap.objs.size ≤ b := Nat.le_of_lt (hG.above b hb)
    exact ⟨hbl, I.hok.fresh hbl, [V.ref x.2.1, V.ref x.2.2], ⟨j, x, hj, hx, rfl⟩, fun H3 => ⟨(by rw [sizeLine_eq]; show 2 ≤ 16777216; omega), [Value.ref x.2.1, Value.ref x.2.2], .cons rfl (.cons rfl .nil), ⟨_, hg, rfl, 0, rfl⟩⟩⟩
  have sm : Same H H2 := g
  have hE : EachIs (Stands H2 encI) (as.map Value.ref) L := by
    refine EachIs.of_zip (by rw [List.length_map]; omega) fun p hp => ?_
    obtain ⟨j, hj⟩ := List.mem_iff_getElem?.mp hp
    obtain ⟨h1, h2⟩ := List.getElem?_zip_eq_some.mp hj
    rw [List.getElem?_map] at h1
    obtain ⟨b, hb, e1⟩ := Option.map_eq_some_iff.mp h1
    obtain ⟨x, hx, e2, e3⟩ := n.rel.getQ h2
    obtain ⟨vs, ⟨j', x', j1, j2, ev⟩, hH⟩ := qt b (List.mem_of_getElem? hb)
    have ejj : j = j' := (List.getElem?_inj (List.getElem?_eq_some_iff.mp hb).1 nd).mp (hb.trans j1.symm)
    subst ejj
    have ex : x' = x := Option.some.inj (j2.symm.trans hx)
    rw [ev, ex] at hH
    refine ⟨.ref b, e1.symm, ?_⟩
    have k1 := (n.nd.ks x (List.mem_of_getElem? hx)).mono sm.tt
    rw [e2] at k1
    exact .tup hH (.cons k1 (.cons (e3.mono sm.tt) .nil))
  have hob : (h'.push { cls := .type "list", data := .seq (as.map Value.ref).toArray }).get? h'.objs.size = some (seqObj "list" (as.map Value.ref).toArray 0) := Heap.get?_push_size _ rfl
  have er := stands_reads0 I2 hE
  have er' : EachIs (fun v b => ∃ as', Reads (h'.push { cls := .type "list", data := .seq (as.map Value.ref).toArray }) v (encI b) as' ∧ h'.objs.size ∉ as') (as.map Value.ref) L :=
    er.mono fun v b hr => ⟨[], PyProof.Rows.Reads.keeps (fun b o e => Heap.get?_push_of_some _ e) hr, (fun z => nomatch z)⟩
  refine PySem.W.list_sort_data (s := { s with heap := h'.push { cls := .type "list", data := .seq (as.map Value.ref).toArray }, toks := tk }) (R := Stands H2 encI) hob hE er' (alike_all alike_I _) (.inl fun d hd => ?_) (by rw [← hLx]; exact kk.sz) (fun b _ => by have := depth_I b; show X.A.units + 1 + 1 + (encI b).depth < cLine; omega) fun out ho eo => ?_
  · obtain ⟨y, _, rfl⟩ := List.mem_map.mp hd
    exact ⟨encF y.1, [encR y.2], rfl⟩
  obtain ⟨ys, h1, h2⟩ := of_stands eo
  obtain ⟨en, hen⟩ := sortedHeap_at (vs := as.map Value.ref) (out := out.toArray) hob
  have hle : ys.length ≤ sizeLine := by rw [h1.length, ho, ← hLx]; exact kk.sz
  have hn2 : H2 h'.objs.size = none := I2.hok.fresh (Nat.le_refl _)
  have I3 : Inv X pins σ (upd H2 h'.objs.size (.lst ys)) { s with heap := sortedHeap (h'.push { cls := .type "list", data := .seq (as.map Value.ref).toArray }) h'.objs.size (as.map Value.ref) out.toArray, toks := tk } :=
    I2.laid (t' := tk) (fun b u e => (sortedHeap_old (Nat.ne_of_lt (Heap.lt_size e)) (Nat.lt_trans (Heap.lt_size e) (Heap.lt_size hob))).trans (Heap.get?_push_of_some _ e)) (Nat.le_refl _) ⟨hle, out, en, h1, hen⟩
  exact ⟨.ref h'.objs.size, _, I3, rfl, q _ _ ys (fun b o e => by rw [upd_ne (ne_of_none (sm b o e) hn2)]; exact sm b o e) (sm.free hn2) upd_same (Tqs.mono (TT.new hn2) h2)⟩
end
end L2.SB
/-! a < b of data; enumerate(tuple); set(tuple of ints). -/
namespace L2.SB
open PySem PySem.Spec PyProof.Rows Sb
open PySem.W (EachIs AllAlike Sortable dataLe dataLt alike)

section
variable {X : Cx}
def rLtD : R2 := fun x y H Q => ∃ d e, Tq H x d ∧ Tq H y e ∧ alike d e = true ∧ d.depth ≤ 8 ∧ Q (.bl (dataLt d e)) H
theorem op_ltD (hu : X.A.units + 10 < cLine) : OpR X (compareOp .Lt) rLtD := by
  intro pins s σ H x y v u Q I rx ry h
  obtain ⟨d, e, hd, he, ha, hdp, q⟩ := h
  have nn : d ≠ .none := fun z => by subst z; cases hd
  exact PySem.W.rcLt_alike d e X.A s v u [] [] (Tq.reads0 I hd rx) (Tq.reads0 I he ry) ha nn (by have : min d.depth e.depth ≤ d.depth := Nat.min_le_left ..; omega) _ _ _ _ ⟨.bl (dataLt d e), H, I, rfl, q⟩
end

/-! ### enumerate(tuple) -/
set_option maxHeartbeats 1000000 in
theorem meets_enumerate_newG {v : Value} {o : Obj} {Hh : Heap → Prop} (B : Begins v o Hh) :
    Meets (Builtin.«enumerate.__new__» ⟨[.type "enumerate", v], []⟩) (fun _ R s => Hh s.heap ∧
      R (.ok (.ret (.ref (s.heap.push o).objs.size))) { s with heap := (s.heap.push o).push { cls := .type "enumerate", data := .fields #[.none, .bool false, .ref s.heap.objs.size, rawInt 0, .none, .none] } }) :=
  .of_wp fun prog w A R s h => by
    obtain ⟨hp, g, d, tk, os⟩ := s; obtain ⟨h1, h⟩ := h
    have hsub := sub_enumerate
    have q1 : ∀ {A' : Around} {E : Value → Shared → Prop} {Q : Value → Shared → Prop}, Q (.ref hp.objs.size) ⟨hp.push o, g, d, tk, os⟩ → wpAny (model prog w) A' (pyIter v) Q E ⟨hp, g, d, tk, os⟩ :=
      fun q => B.iter prog w _ _ ⟨hp, g, d, tk, os⟩ _ h1 q
    wp_walk using q1
    refine wpAny_stack_any fun st => wpAny_pure ?_
    split
    · rename_i c _ _ _ _ _
      cases (c == Value.type "enumerate")
      · wp_walk using q1
        exact ⟨_, rfl, h⟩
      · wp_walk using q1
        exact ⟨_, rfl, h⟩
    · wp_walk using q1
      exact ⟨_, rfl, h⟩
theorem call_enumerate_tuple {prog : Program} {w : World} {A : Around} {E : Value → Shared → Prop} {s : Shared} {l : Addr} {items : Array Value} {Q : Value → Shared → Prop} (hL : s.heap.IsTuple l items)
    (h : ∀ h', IsEnum h' (s.heap.objs.size + 1) s.heap.objs.size 0 .none → h'.IsTupleIter s.heap.objs.size l 0 → h'.objs.size = s.heap.objs.size + 2 →
      (∀ b o, s.heap.get? b = some o → h'.get? b = some o) → Q (.ref (s.heap.objs.size + 1)) { s with heap := h' }) :
    wpAny (model prog w) A (call (.type "enumerate") [.ref l]) Q E s := by
  refine callType_new PySem.F.called_enumerate (by decide) (PySem.F.typeCall_enumerate_1 _) (PySem.F.newCall_enumerate_1 _) (fun obj => PySem.F.args_object_init_2 obj _) PySem.F.entry_enumerate_new
    (meets_enumerate_newG (begins_tuple l items)) ⟨hL, ?_⟩
  have hz : (s.heap.push { cls := .type "tuple_iterator", data := .fields #[.ref l, .int 0 0] }).objs.size = s.heap.objs.size + 1 := Heap.size_push ..
  show _ ∧ _
  rw [hz]
  have he : IsEnum ((s.heap.push { cls := .type "tuple_iterator", data := .fields #[.ref l, .int 0 0] }).push
      { cls := .type "enumerate", data := .fields #[.none, .bool false, .ref s.heap.objs.size, rawInt 0, .none, .none] }) (s.heap.objs.size + 1) s.heap.objs.size 0 .none := by
    have := Heap.get?_push_size (s.heap.push { cls := .type "tuple_iterator", data := .fields #[.ref l, .int 0 0] })
      (o := { cls := .type "enumerate", data := .fields #[.none, .bool false, .ref s.heap.objs.size, rawInt 0, .none, .none] }) rfl
    rw [hz] at this; exact this
  refine ⟨⟨_, he, rfl⟩, h _ he ⟨_, Heap.get?_push_of_some _ (Heap.get?_push_size _ rfl), rfl, rfl⟩ (by rw [Heap.size_push, hz]) fun b o x => Heap.get?_push_of_some _ (Heap.get?_push_of_some _ x)⟩

def Iten (K : PySem.W.Frag) (a : Addr) : It :=
  ⟨fun i H => ∃ (xs : List V) (x : V), SqT K H a xs ∧ xs[i]? = some x, fun i H v H' => ∃ T x, v = .ref T ∧ H T = none ∧ H' = upd H T (.tup [.int (i : Nat), x]) ∧ ∀ xs, SqT K H a xs → xs[i]? = some x, fun i H => ∃ xs : List V, SqT K H a xs ∧ xs.length = i⟩
theorem walk_enumT {K : PySem.W.Frag} {a : Addr} {xs : List V} : Walk (Iten K a) xs.length (fun H => SqT K H a xs) (YPair (fun i => some (.int (i : Nat))) (fun i => xs[i]?)) := by
  refine ⟨fun i _ hi q => ⟨xs, xs[i], q, by simp [hi]⟩, fun _ q => ⟨xs, q, rfl⟩, fun i H v H' _ q y => ?_⟩
  obtain ⟨T, x, h1, h2, h3, h4⟩ := y
  exact ⟨T, .int (i : Nat), x, h1, h2, h3, rfl, h4 xs q⟩
theorem turn_enumT {P : Program} {w : World} {K : PySem.W.Frag} {elts : List Expr} {kk : Nat} {tpos : Pos} (a e it : Addr) :
    Turn P w K (.Tuple elts kk tpos) (Iten K a) [e, it] e (fun i h => (∃ old, IsEnum h e it ((i : Nat) : Int) old) ∧ h.IsTupleIter it a i ∧ e ≠ it) where
  mem := by simp
  obj := fun i h st b hb => by
    obtain ⟨⟨old, he⟩, ⟨o, ho, hc, hd⟩, _⟩ := st
    have e' : b = e ∨ b = it := by simpa using hb
    rcases e' with z | z
    · rw [z]; exact ⟨_, he, fun v q => nomatch q⟩
    · rw [z]; exact ⟨o, ho, fun v q => by rw [hd] at q; cases q⟩
  keep := fun i h h' st k => let ⟨⟨old, he⟩, hi, hne⟩ := st; ⟨⟨old, k e (by simp) _ he⟩, hi.at fun o q => k it (by simp) o q, hne⟩
  item := by
    intro X hP hw hK hc i pins s σ H E I hf st hg
    subst hP hw hK
    obtain ⟨⟨old, he⟩, hit, hne⟩ := st
    obtain ⟨xs, x, hq, hx⟩ := hg
    obtain ⟨its, rv, p, hz⟩ := I.tuple hq
    have hT : s.heap.IsTuple a its.toArray := p
    obtain ⟨u, hu, ru⟩ := rv.get hx
    have hel : e < s.heap.objs.size := Heap.lt_size he
    have hil : it < s.heap.objs.size := by obtain ⟨_, q, _⟩ := hit; exact Heap.lt_size q
    have hai : a ≠ it := fun z => by
      obtain ⟨o1, e1, c1, _⟩ := hT
      obtain ⟨o2, e2, c2, _⟩ := hit
      rw [z, e2] at e1
      cases e1
      rw [c2] at c1
      exact absurd c1 (by decide +kernel)
    have hae : e ∉ [it, a] := fun z => by
      rcases List.mem_cons.mp z with z | z
      · exact hne z
      · have z := List.mem_singleton.mp z
        obtain ⟨o1, e1, c1, _⟩ := hT
        have he' := he
        rw [z] at he'
        rw [he'] at e1
        cases e1
        exact absurd (show Value.type "enumerate" = Value.type "tuple" from c1) (by decide +kernel)
    have D := Draws.tuple (prog := X.prog) (w := X.w) (A := X.A.in1) (I.ok.hd hc) it a hai its.toArray
    have hil2 : i < its.toArray.size := by
      have := (List.getElem?_eq_some_iff.mp hu).1
      simpa using this
    refine wpAny_pyNext_enum_itemC D he ⟨hit, hT⟩ hil2 hne hae fun y h' tk hy ho hit' hTn hsz hk => ?_
    have ey : y = u := by
      have h1 : its[i]? = some y := by simpa using hy
      exact Option.some.inj (h1.symm.trans hu)
    subst ey
    refine ⟨_, rfl, wpAny_letOwnedTupleGo_enum (s := { s with heap := h', toks := tk + 1 }) ho fun h'' he' sb => ?_⟩
    have hT2 : h''.get? s.heap.objs.size = some { cls := .type "tuple", data := .seq #[.int i tk, y] } := (sb.2 _ (Nat.ne_of_gt hel)).trans hTn
    have new : ObjOk X.prog X.w (upd H s.heap.objs.size (.tup [.int (i : Nat), x])) h'' s.heap.objs.size (.tup [.int (i : Nat), x]) :=
      ⟨by show 2 ≤ sizeLine; decide, [.int i tk, y], .cons ⟨_, rfl⟩ (.cons ru .nil), ⟨_, hT2, rfl, _, rfl⟩⟩
    have I1 : Inv X pins σ (upd H s.heap.objs.size (.tup [.int (i : Nat), x])) { s with heap := h'', toks := tk + 1 } :=
      I.turnedNew (ch := [e, it]) (fun b ob hb q => (sb.2 b (fun z => hb (by simp [z]))).trans (hk b ob (fun z => hb (by simp [z])) (fun z => hb (by simp [z])) q)) hf (Nat.le_refl _) new
    refine ⟨.ref s.heap.objs.size, _, I1, rfl, ⟨_, x, rfl, I.hok.fresh (Nat.le_refl _), rfl, fun ys hy => by rw [I.tuple_inj hy hq]; exact hx⟩, ⟨⟨y, ?_⟩, hit'.1.at fun o q => (sb.2 it (Ne.symm hne)).trans q, hne⟩, fun b hb => ?_⟩
    · have e1 : ((i + 1 : Nat) : Int) = (i : Int) + 1 := by omega
      rw [e1]; exact he'
    · have hb' : b < s.heap.objs.size := by
        have e' : b = e ∨ b = it := by simpa using hb
        rcases e' with z | z
        · rw [z]; exact hel
        · rw [z]; exact hil
      rw [upd_ne (Nat.ne_of_lt hb')]
      exact (hf b hb).1
  done := by
    intro X hP hw hK hc i pins s σ H E I hf st hg
    subst hP hw hK
    obtain ⟨⟨old, he⟩, hit, hne⟩ := st
    obtain ⟨xs, hq, hx⟩ := hg
    obtain ⟨its, rv, p, hz⟩ := I.tuple hq
    have hT : s.heap.IsTuple a its.toArray := p
    obtain ⟨f0, f1, f2, f3, f4, f5⟩ := hf it (by simp)
    have hl : xs.length = its.length := rv.length
    have hai : a ≠ it := fun z => by
      obtain ⟨o1, e1, c1, _⟩ := hT
      obtain ⟨o2, e2, c2, _⟩ := hit
      rw [z, e2] at e1
      cases e1
      rw [c2] at c1
      exact absurd c1 (by decide +kernel)
    have D := Draws.tuple (prog := X.prog) (w := X.w) (A := X.A.in1) (I.ok.hd hc) it a hai its.toArray
    have ei : i = its.toArray.size := by rw [List.size_toArray, ← hl, hx]
    subst ei
    exact wpAny_pyNext_enum_endD D he ⟨hit, hT⟩ fun h' eb => ⟨rfl, I.turned (t' := s.toks) (fun b o hb q => eb b o hb q) f0 f1 f3 f4 f5⟩
  self := fun A i s Q E st h => let ⟨⟨_, he⟩, _⟩ := st; wpAny_pyIter_enum he h
def iEnumT (K : PySem.W.Frag) (ta : TA) : TI := fun σ H R => ta σ H fun vs H1 => ∃ a xs, vs = [.ref a] ∧ SqT K H1 a xs ∧ R (Iten K a) H1
theorem pi_enumT {X : Cx} {e : Expr} {ta : TA} {p pos tpos : Pos} {elts : List Expr} {kk : Nat} (hg : Gl X "enumerate") (hm : X.mg "enumerate" = none) (ha : PA X [e] ta) (hs : starEach [e] X.env = [(false, eval e X.env)] := by rfl) :
    PI X (.Tuple elts kk tpos) (.Call (.Name "enumerate" p) [e] [] pos) (iEnumT X.K ta) := by
  refine ⟨fun pins s σ H R I h => ?_⟩
  refine Call_ (ld_blt I hg hm boot_enumerate (PyProof.Rows.callWith_type1 (thn (ha.run pos pins s σ H _ I h) fun us s1 ⟨vs, H1, I1, r1, q1⟩ => ?_) hs rfl))
  obtain ⟨a, xs, ex, hq, q⟩ := q1
  subst ex
  cases r1 with
  | cons r rr =>
    cases rr
    cases r
    obtain ⟨its, rv, p', hz⟩ := I1.tuple hq
    refine call_enumerate_tuple (show s1.heap.IsTuple a its.toArray from p') fun h' he hit hsz hk => wpAny_pyIter_enum he ?_
    have I2 : Inv X pins σ H1 { s1 with heap := h' } := I1.kept (t' := s1.toks) hk
    refine ⟨s1.heap.objs.size + 1, [s1.heap.objs.size + 1, s1.heap.objs.size], _, _, H1, rfl, I2, turn_enumT a (s1.heap.objs.size + 1) s1.heap.objs.size, ⟨⟨.none, he⟩, hit, Nat.succ_ne_self _⟩, fun b hb => ?_, q⟩
    have e' : b = s1.heap.objs.size + 1 ∨ b = s1.heap.objs.size := by simpa using hb
    have hle : s1.heap.objs.size ≤ b := by
      rcases e' with z | z
      · rw [z]; exact Nat.le_add_right _ _
      · rw [z]; exact Nat.le_refl _
    exact I1.fpOk hle (I1.hok.fresh hle)

/-! ### set(tuple of ints) -/
def rSetI (K : PySem.W.Frag) (w : World) : List V → Hp → VK → Prop := fun vs H Q => ∃ (p : Addr) (ns : List Int), vs = [V.ref p] ∧ SqT K H p (ns.map V.int) ∧ ns.length ≤ 60 ∧
  ∀ (a : Addr) (c : Nat), H a = none → c ≤ ns.length → Q (.ref a) (upd H a (SetO w a (fun j => decide (j ∈ ns)) c))
theorem cr_setI {X : Cx} (hc : X.calm = true) : CallR X (.type "set") (rSetI X.K X.w) := by
  intro pins s σ H vs us Q I r h
  obtain ⟨p0, ns, rfl, hq, hl, q⟩ := h
  rw [Vals.ref1 r]
  obtain ⟨its, rv, pt, hz⟩ := I.tuple hq
  have hi : IntsAre its.toArray.toList ns := ints_of_vals rv
  refine call_set_tupI ns (I.ok.hd hc) (show s.heap.IsTuple p0 its.toArray from pt) hi (by unfold scanBound; omega) fun h' tk c R1 hcn k => ?_
  have hn : H s.heap.objs.size = none := I.hok.fresh (Nat.le_refl _)
  exact ⟨.ref s.heap.objs.size, _, I.laid (t' := tk) k (Nat.le_refl _) (setO_new R1), rfl, q _ c hn hcn⟩
end L2.SB
/-! The text by places; a def that may be called. -/
namespace L2.SB
open PySem PySem.Spec PyProof.Rows Sb
open C8 (Cal pe_c)

def top (i : Nat) : Stmt := PySem.Challenge.pw_sharebags_k51_whole_blind_pourers.main.body.getD i (.Pass ⟨0, 0, 0, 0⟩)
/-- the built-in names that the top leaves as they are -/
structure Bt (mg : Str → Option Value) : Prop where
  isinstance : mg "isinstance" = none
  int : mg "int" = none
  bool : mg "bool" = none
  tuple : mg "tuple" = none
  list : mg "list" = none
  str : mg "str" = none
  set : mg "set" = none
  len : mg "len" = none
  all : mg "all" = none
  zip : mg "zip" = none
  max : mg "max" = none
  sum : mg "sum" = none
  abs : mg "abs" = none
  range : mg "range" = none
  enumerate : mg "enumerate" = none
  sorted : mg "sorted" = none
/-- the def x stands behind the top as the text's statement st says -/
structure DefAt (K : PySem.W.Frag) (mg : Str → Option Value) (x : Str) (st : Stmt) (ps : List Str) : Prop where
  ex : ∃ (f : Addr) (fd : FuncData), Fun K x x st f fd ∧ mg x = some (.ref f) ∧ Binds K fd ps []
section
variable {P : Program} {w : World} {K : PySem.W.Frag} {mg : Str → Option Value} {base : Heap}
theorem cal_ok {x : Str} {st : Stmt} {N ps : List Str} {k : Nat} {sp : Sp} (D : DefAt K mg x st ps) (S : FnScope N ps (defScope st)) (len : ∀ vs H Q E, sp vs H Q E → vs.length = ps.length)
    (hbody : ∀ (f : Addr) (cdv : Value) (A : Around) (outer : List Env) (s : Shared) (H : Hp) (vs : List V) (Q : VK) (E : XK), Room k (A.deeper (envOfC x (defScope st) s.heap.objs.size f cdv)) → sp vs H Q E →
      ∃ t, PSs (cxOf CX0 P w K mg base N x (defScope st) f cdv A outer s H E).nox (defBody st) t ∧ t { nx := fun _ H' => Q .non H', rt := Q } (start N vs) H) : Cal P w K mg base (k + 1) x sp [] := by
  obtain ⟨f, fd, F, hm, b⟩ := D.ex
  exact ⟨f, fd, ps, [], F.ok S len (fun cdv A outer s H vs Q E hr h => hbody f cdv A outer s H vs Q E hr h), hm, F.kp, b, .nil⟩
theorem _root_.C8.Cal.mono {j k : Nat} {x : Str} {sp : Sp} (c : Cal P w K mg base j x sp []) (h : j ≤ k) : Cal P w K mg base k x sp [] := by
  obtain ⟨f, fd, ps, ds, F, hm, kp, b, d⟩ := c.ex
  exact ⟨f, fd, ps, ds, F.mono h, hm, kp, b, d⟩
theorem _root_.C8.Cal.imp {k : Nat} {x : Str} {sp sp' : Sp} (c : Cal P w K mg base k x sp []) (h : ∀ vs H Q E, sp' vs H Q E → sp vs H Q E) : Cal P w K mg base k x sp' [] := by
  obtain ⟨f, fd, ps, ds, F, hm, kp, b, d⟩ := c.ex
  exact ⟨f, fd, ps, ds, F.imp h, hm, kp, b, d⟩
theorem room10 {k : Nat} {A : Around} (r : Room k A) : A.units + 14 < cLine := by have := r.un; omega
end
end L2.SB
/-! Short words for expressions. -/
namespace L2.SB
open PySem PySem.Spec PyProof.Rows Sb
open C8 (Cal pe_c)
section
variable {X : Cx} {e e2 : Expr} {te te2 : TE} {p pos : Pos} {t : TA} {es : List Expr}
theorem x_len (T : Bt X.mg) (ha : PE X e te) (hg : Gl X "len" := by rfl) (he : starEach [e] X.env = (false, eval e X.env) :: starEach [] X.env := by rfl) (hpl : (backTo pos (starEach [] X.env)).any (·.1) = false := by rfl) :
    PE X (.Call (.Name "len" p) [e] [] pos) (tCB (fun xs H Q => ∃ p ys, xs = [.ref p] ∧ (SqL X.K H p ys ∨ SqT X.K H p ys) ∧ Q (.int ys.length) H) (tCons te tNil)) :=
  pe_callB call_len_seq hg T.len boot_len (pa_cons ha pa_nil he) (he := he) (hpl := hpl)
theorem x_lenD (T : Bt X.mg) (ha : PE X e te) (hg : Gl X "len" := by rfl) (he : starEach [e] X.env = (false, eval e X.env) :: starEach [] X.env := by rfl) (hpl : (backTo pos (starEach [] X.env)).any (·.1) = false := by rfl) :
    PE X (.Call (.Name "len" p) [e] [] pos) (tCB (fun xs H Q => ∃ a kvs, xs = [V.ref a] ∧ H a = some (.dK kvs) ∧ Q (.int kvs.length) H) (tCons te tNil)) :=
  pe_callB call_lenD hg T.len boot_len (pa_cons ha pa_nil he) (he := he) (hpl := hpl)
theorem boot_isinstance : bootBuiltins "isinstance" = some (.builtin "isinstance") := by decide +kernel
theorem boot_all : bootBuiltins "all" = some (.builtin "all") := by decide +kernel
theorem boot_maxX : bootBuiltins "max" = some (.builtin "max") := by decide +kernel
theorem boot_sumX : bootBuiltins "sum" = some (.builtin "sum") := by decide +kernel
theorem boot_absX : bootBuiltins "abs" = some (.builtin "abs") := by decide +kernel
theorem boot_sortedX : bootBuiltins "sorted" = some (.builtin "sorted") := by decide +kernel
theorem boot_tupleX : bootBuiltins "tuple" = some (.type "tuple") := by decide +kernel
theorem boot_listX : bootBuiltins "list" = some (.type "list") := by decide +kernel
theorem boot_intX : bootBuiltins "int" = some (.type "int") := by decide +kernel
theorem boot_boolX : bootBuiltins "bool" = some (.type "bool") := by decide +kernel
theorem boot_setX : bootBuiltins "set" = some (.type "set") := by decide +kernel
theorem boot_strX : bootBuiltins "str" = some (.type "str") := by decide +kernel
theorem x_isi (T : Bt X.mg) (ha : PA X (e :: es) t) (hg : Gl X "isinstance" := by rfl) (he : starEach (e :: es) X.env = (false, eval e X.env) :: starEach es X.env := by rfl) (hpl : (backTo pos (starEach es X.env)).any (·.1) = false := by rfl) :
    PE X (.Call (.Name "isinstance" p) (e :: es) [] pos) (tCB (rIsi X.K) t) := pe_callB call_isi hg T.isinstance boot_isinstance ha (he := he) (hpl := hpl)
theorem x_isiT (T : Bt X.mg) (ha : PA X (e :: es) t) (hg : Gl X "isinstance" := by rfl) (he : starEach (e :: es) X.env = (false, eval e X.env) :: starEach es X.env := by rfl) (hpl : (backTo pos (starEach es X.env)).any (·.1) = false := by rfl) :
    PE X (.Call (.Name "isinstance" p) (e :: es) [] pos) (tCB (rIsiT X.K) t) := pe_callB call_isiT hg T.isinstance boot_isinstance ha (he := he) (hpl := hpl)
theorem x_all (T : Bt X.mg) (hc : X.calm = true) (ha : PE X e te) (hg : Gl X "all" := by rfl) (he : starEach [e] X.env = (false, eval e X.env) :: starEach [] X.env := by rfl) (hpl : (backTo pos (starEach [] X.env)).any (·.1) = false := by rfl) :
    PE X (.Call (.Name "all" p) [e] [] pos) (tCB (rAll X.K) (tCons te tNil)) := pe_callB (cr_all hc) hg T.all boot_all (pa_cons ha pa_nil he) (he := he) (hpl := hpl)
theorem x_max (T : Bt X.mg) (hc : X.calm = true) (ha : PE X e te) (hg : Gl X "max" := by rfl) (he : starEach [e] X.env = (false, eval e X.env) :: starEach [] X.env := by rfl) (hpl : (backTo pos (starEach [] X.env)).any (·.1) = false := by rfl) :
    PE X (.Call (.Name "max" p) [e] [] pos) (tCB (rMax X.K) (tCons te tNil)) := pe_callB (cr_max hc) hg T.max boot_maxX (pa_cons ha pa_nil he) (he := he) (hpl := hpl)
theorem x_sum (T : Bt X.mg) (hc : X.calm = true) (ha : PE X e te) (hg : Gl X "sum" := by rfl) (he : starEach [e] X.env = (false, eval e X.env) :: starEach [] X.env := by rfl) (hpl : (backTo pos (starEach [] X.env)).any (·.1) = false := by rfl) :
    PE X (.Call (.Name "sum" p) [e] [] pos) (tCB (rSum X.K) (tCons te tNil)) := pe_callB (cr_sum hc) hg T.sum boot_sumX (pa_cons ha pa_nil he) (he := he) (hpl := hpl)
theorem x_abs (T : Bt X.mg) (ha : PE X e te) (hg : Gl X "abs" := by rfl) (he : starEach [e] X.env = (false, eval e X.env) :: starEach [] X.env := by rfl) (hpl : (backTo pos (starEach [] X.env)).any (·.1) = false := by rfl) :
    PE X (.Call (.Name "abs" p) [e] [] pos) (tCB (fun xs H Q => ∃ i, xs = [.int i] ∧ Q (.int (if i < 0 then -i else i)) H) (tCons te tNil)) := pe_callB call_abs hg T.abs boot_absX (pa_cons ha pa_nil he) (he := he) (hpl := hpl)
theorem x_sorted {r : List V → Hp → VK → Prop} (T : Bt X.mg) (hr : CallR X (.builtin "sorted") r) (ha : PE X e te) (hg : Gl X "sorted" := by rfl) (he : starEach [e] X.env = (false, eval e X.env) :: starEach [] X.env := by rfl) (hpl : (backTo pos (starEach [] X.env)).any (·.1) = false := by rfl) :
    PE X (.Call (.Name "sorted" p) [e] [] pos) (tCB r (tCons te tNil)) := pe_callB hr hg T.sorted boot_sortedX (pa_cons ha pa_nil he) (he := he) (hpl := hpl)
theorem x_tuple (T : Bt X.mg) (ha : PE X e te) (hg : Gl X "tuple" := by rfl) (he : starEach [e] X.env = (false, eval e X.env) :: starEach [] X.env := by rfl) (hpl : (backTo pos (starEach [] X.env)).any (·.1) = false := by rfl) :
    PE X (.Call (.Name "tuple" p) [e] [] pos) (tCB (fun xs H Q => ∃ p ys, xs = [.ref p] ∧ ((SqL X.K H p ys ∧ ∀ l, H l = none → Q (.ref l) (upd H l (.tup ys))) ∨ (SqT X.K H p ys ∧ Q (.ref p) H))) (tCons te tNil)) := pe_callTy call_tuple_of hg T.tuple boot_tupleX (pa_cons ha pa_nil he) (he := he) (hpl := hpl)
theorem x_list (T : Bt X.mg) (ha : PE X e te) (hg : Gl X "list" := by rfl) (he : starEach [e] X.env = (false, eval e X.env) :: starEach [] X.env := by rfl) (hpl : (backTo pos (starEach [] X.env)).any (·.1) = false := by rfl) :
    PE X (.Call (.Name "list" p) [e] [] pos) (tCB (fun xs H Q => ∃ p ys, xs = [.ref p] ∧ (SqL X.K H p ys ∨ SqT X.K H p ys) ∧ ∀ l, H l = none → Q (.ref l) (upd H l (.lst ys))) (tCons te tNil)) := pe_callTy call_list_of hg T.list boot_listX (pa_cons ha pa_nil he) (he := he) (hpl := hpl)
theorem x_int (T : Bt X.mg) (ha : PE X e te) (hg : Gl X "int" := by rfl) (he : starEach [e] X.env = (false, eval e X.env) :: starEach [] X.env := by rfl) (hpl : (backTo pos (starEach [] X.env)).any (·.1) = false := by rfl) :
    PE X (.Call (.Name "int" p) [e] [] pos) (tCB (fun xs H Q => (∃ i, xs = [.int i] ∧ Q (.int i) H) ∨ ∃ k, xs = [.bl k] ∧ Q (.int (if k then 1 else 0)) H) (tCons te tNil)) := pe_callTy call_int1 hg T.int boot_intX (pa_cons ha pa_nil he) (he := he) (hpl := hpl)
theorem x_set (T : Bt X.mg) (hc : X.calm = true) (ha : PE X e te) (hg : Gl X "set" := by rfl) (he : starEach [e] X.env = (false, eval e X.env) :: starEach [] X.env := by rfl) (hpl : (backTo pos (starEach [] X.env)).any (·.1) = false := by rfl) :
    PE X (.Call (.Name "set" p) [e] [] pos) (tCB (rSetI X.K X.w) (tCons te tNil)) := pe_callTy (cr_setI hc) hg T.set boot_setX (pa_cons ha pa_nil he) (he := he) (hpl := hpl)
theorem x_append {o : Expr} {to : TE} {apos : Pos} (ho : PE X o to) (ha : PE X e te) (hbase : attributeBase o "append" X.env (eval o X.env) = eval o X.env := by rfl)
    (hfew : ((backTo pos (starEach [e] X.env)).all (fun x => !x.1) && (backToKw pos (keywordEach [] X.env)).all (fun x => x.1.isSome)
      && decide (([e] : List Expr).length + ([] : List Keyword).length + (if ([] : List Keyword).isEmpty then 0 else 1) < 30)) = true := by rfl)
    (hline : (apos.endLine == pos.line) = true := by rfl) (hs : starEach [e] X.env = (false, eval e X.env) :: starEach [] X.env := by rfl) (hplain : (backTo pos (starEach [] X.env)).any (·.1) = false := by rfl) :
    PE X (.Call (.Attribute o "append" apos) [e] [] pos) (tBM X.K "list" rAppend to (tCons te tNil)) :=
  pe_bm PySem.F.plainAttrs_list PySem.F.slot_list_append PySem.F.type_list_append mt_append ho (pa_cons ha pa_nil hs) hbase hfew hline hs hplain
/-- a tracked list may be appended to -/
theorem tyL {K : PySem.W.Frag} {H : Hp} {a : Addr} {xs : List V} (h : H a = some (.lst xs)) : tyV K "list" (.ref a) H := .inl ⟨rfl, xs, .inl (.inl h)⟩
/-- a class as a value -/
theorem x_tInt (T : Bt X.mg) (hg : Gl X "int" := by rfl) : PE X (.Name "int" pos) (tC (.ty "int")) := pe_bltn hg T.int boot_intX rfl
theorem x_tBool (T : Bt X.mg) (hg : Gl X "bool" := by rfl) : PE X (.Name "bool" pos) (tC (.ty "bool")) := pe_bltn hg T.bool boot_boolX rfl
theorem x_tTuple (T : Bt X.mg) (hg : Gl X "tuple" := by rfl) : PE X (.Name "tuple" pos) (tC (.ty "tuple")) := pe_bltn hg T.tuple boot_tupleX rfl
theorem x_tList (T : Bt X.mg) (hg : Gl X "list" := by rfl) : PE X (.Name "list" pos) (tC (.ty "list")) := pe_bltn hg T.list boot_listX rfl
theorem x_tStr (T : Bt X.mg) (hg : Gl X "str" := by rfl) : PE X (.Name "str" pos) (tC (.ty "str")) := pe_bltn hg T.str boot_strX rfl
theorem pa1 (ha : PE X e te) (hs : starEach [e] X.env = (false, eval e X.env) :: starEach [] X.env := by rfl) : PA X [e] (tCons te tNil) := pa_cons ha pa_nil hs
theorem pa2 (ha : PE X e te) (hb : PE X e2 te2) (h1 : starEach (e :: [e2]) X.env = (false, eval e X.env) :: starEach [e2] X.env := by rfl) (h2 : starEach (e2 :: []) X.env = (false, eval e2 X.env) :: starEach [] X.env := by rfl) : PA X [e, e2] (tCons te (tCons te2 tNil)) := pa_cons ha (pa_cons hb pa_nil h2) h1
/-- lists, tuples, by a written or named index -/
theorem x_ixL (ha : PE X e te) (hb : PE X e2 te2) (hs : PlainIx e2) : PE X (.Subscript e e2 pos) (tOp (rIxL X.K) te te2) := pe_ix ix_list ha hb hs
theorem x_ixT (ha : PE X e te) (hb : PE X e2 te2) (hs : PlainIx e2) : PE X (.Subscript e e2 pos) (tOp (rIxT X.K) te te2) := pe_ix ix_tup ha hb hs
end
end L2.SB
/-! The walk: small defs. -/
namespace L2.SB
open PySem PySem.Spec PyProof.Rows Sb
open C8 (Cal pe_c)

abbrev s_is_int : Stmt := top 8
abbrev s_is_in : Stmt := top 9
abbrev s_need_number : Stmt := top 10
section
variable {P : Program} {w : World} {K : PySem.W.Frag} {mg : Str → Option Value} {base : Heap}

def sp_is_int : Sp := fun vs H Q _ => ∃ i, vs = [.int i] ∧ Q (.bl true) H
theorem sc_is_int : FnScope ["value"] ["value"] (defScope s_is_int) := ⟨rfl, rfl, rfl, by decide +kernel, rfl, by decide +kernel, by decide +kernel⟩
theorem ok_is_int (T : Bt mg) (D : DefAt K mg "is_int" s_is_int ["value"]) : Cal P w K mg base 1 "is_int" sp_is_int [] := by
  refine cal_ok D sc_is_int (fun vs H Q E h => ?_) (fun f cdv A outer s H vs Q E hr h => ?_)
  · obtain ⟨i, rfl, _⟩ := h
    rfl
  · obtain ⟨i, rfl, q⟩ := h
    refine ⟨_, pss_one (ps_ret (pe_and (x_isi T (pa2 (pv 0) (x_tInt T))) (pe_one (pe_not (x_isi T (pa2 (pv 0) (x_tBool T))))))), ?_⟩
    refine ⟨_, rfl, _, _, _, _, true, rfl, .ty _, .base (.int _), kit_ty (by decide +kernel), true, rfl, iteT ?_⟩
    exact ⟨_, rfl, _, _, _, _, false, rfl, .ty _, .base (.int _), kit_ty (by decide +kernel), false, rfl, q⟩

def sp_is_in : Sp := fun vs H Q _ => ∃ i a b, vs = [.int i, .int a, .int b] ∧ Q (.bl (decide (a ≤ i) && decide (i ≤ b))) H
theorem sc_is_in : FnScope ["value", "least", "most"] ["value", "least", "most"] (defScope s_is_in) := ⟨rfl, rfl, rfl, by decide +kernel, rfl, by decide +kernel, by decide +kernel⟩
theorem ok_is_in (C : Cal P w K mg base 1 "is_int" sp_is_int []) (D : DefAt K mg "is_in" s_is_in ["value", "least", "most"]) : Cal P w K mg base 2 "is_in" sp_is_in [] := by
  refine cal_ok D sc_is_in (fun vs H Q E h => ?_) (fun f cdv A outer s H vs Q E hr h => ?_)
  · obtain ⟨i, a, b, rfl, _⟩ := h
    rfl
  · obtain ⟨i, a, b, rfl, q⟩ := h
    refine ⟨_, pss_one (ps_ret (pe_and (pe_c C hr (by decide) (by rfl) (pa1 (pv 0))) (pe_one (pe_chain op_le op_le (pv 1) (pv 0) (pv 2))))), ?_⟩
    refine ⟨_, rfl, i, rfl, true, rfl, iteT ?_⟩
    refine ⟨_, rfl, _, rfl, a, i, rfl, rfl, _, rfl, ?_⟩
    by_cases h1 : a ≤ i
    · rw [decide_eq_true h1] at q ⊢
      refine iteT ⟨_, rfl, i, b, rfl, rfl, ?_⟩
      simpa using q
    · rw [decide_eq_false h1] at q ⊢
      exact iteF (by simpa using q)

def sp_need_number : Sp := fun vs H Q _ => ∃ i a b, vs = [.int i, .int a, .int b] ∧ a ≤ i ∧ i ≤ b ∧ Q .non H
theorem sc_need_number : FnScope ["value", "least", "most"] ["value", "least", "most"] (defScope s_need_number) := ⟨rfl, rfl, rfl, by decide +kernel, rfl, by decide +kernel, by decide +kernel⟩
theorem ok_need_number (C : Cal P w K mg base 2 "is_in" sp_is_in []) (D : DefAt K mg "need_number" s_need_number ["value", "least", "most"]) : Cal P w K mg base 3 "need_number" sp_need_number [] := by
  refine cal_ok D sc_need_number (fun vs H Q E h => ?_) (fun f cdv A outer s H vs Q E hr h => ?_)
  · obtain ⟨i, a, b, rfl, _⟩ := h
    rfl
  · obtain ⟨i, a, b, rfl, h1, h2, q⟩ := h
    refine ⟨_, pss_one (ps_if (pt_not (pt_val (pe_c C hr (by decide) (by rfl) (pa_cons (pv 0) (pa2 (pv 1) (pv 2)))))) pss_never pss_nil), ?_⟩
    refine ⟨_, rfl, _, rfl, _, rfl, i, a, b, rfl, _, rfl, ?_⟩
    rw [decide_eq_true h1, decide_eq_true h2]
    exact iteF q
end
end L2.SB
/-! The walk: ratios. -/
namespace L2.SB
open PySem PySem.Spec PyProof.Rows Sb
open C8 (Cal pe_c)

theorem nabs {n k : Nat} (h : n < 2 ^ k) : ((n : Nat) : Int).natAbs < 2 ^ k := by simpa using h
theorem nat_mod (a b : Nat) : ((a : Int) % (b : Int)) = ((a % b : Nat) : Int) := rfl
theorem nat_div (a b : Nat) : ((a : Int) / (b : Int)) = ((a / b : Nat) : Int) := rfl
theorem nat_mul (a b : Nat) : ((a : Int) * (b : Int)) = ((a * b : Nat) : Int) := rfl
theorem nat_add (a b : Nat) : ((a : Int) + (b : Int)) = ((a + b : Nat) : Int) := rfl

abbrev s_common : Stmt := top 25
abbrev s_lowered : Stmt := top 26
abbrev s_plus : Stmt := top 29
abbrev s_lcommon : Stmt := top 45
abbrev s_llowered : Stmt := top 46
abbrev s_lplus : Stmt := top 47
/-- Same with a new object -/
theorem Same.new {H : Hp} {p : Addr} {o : HO} (h : H p = none) : Same H (upd H p o) := fun a u e => by rw [upd_ne (ne_of_none e h)]; exact e

section
variable {P : Program} {w : World} {K : PySem.W.Frag} {mg : Str → Option Value} {base : Heap}

def sp_common : Sp := fun vs H Q _ => ∃ a b : Nat, vs = [vN a, vN b] ∧ Q (vN (a.gcd b)) H
theorem sc_common : FnScope ["one", "other"] ["one", "other"] (defScope s_common) := ⟨rfl, rfl, rfl, by decide +kernel, rfl, by decide +kernel, by decide +kernel⟩
theorem gcd_step (a b : Nat) (h : b ≠ 0) : b.gcd (a % b) = a.gcd b := by
  rw [Nat.gcd_comm b (a % b), ← Nat.gcd_rec, Nat.gcd_comm]
theorem ok_common (T : Bt mg) (D : DefAt K mg "common" s_common ["one", "other"]) : Cal P w K mg base 1 "common" sp_common [] := by
  refine cal_ok D sc_common (fun vs H Q E h => ?_) (fun f cdv A outer s H vs Q E hr h => ?_)
  · obtain ⟨a, b, rfl, _⟩ := h
    rfl
  · obtain ⟨a, b, rfl, q⟩ := h
    refine ⟨_, pss_cons (ps_while PassesOwn.never (pt_cmpR op_ne (pv 1) pe_int (nomark _))
      (pss_one (ps_par (i := 0) (j := 1) (by rfl) sc_common.nd rfl rfl (by decide) rfl rfl (pa2 (pv 1) (pe_op op_mod (pv 0) (pv 1))) (by rfl))))
      (pss_one (ps_ret (x_abs T (pv 0)))), ?_⟩
    refine ⟨fun m σ H' => ∃ x y : Nat, σ = [some (vN x), some (vN y)] ∧ H' = H ∧ x.gcd y = a.gcd b ∧ m = y, ⟨b, a, b, rfl, rfl, rfl, rfl⟩, ?_⟩
    rintro m σ H' ⟨x, y, rfl, rfl, e, rfl⟩
    refine ⟨_, rfl, rfl, _, rfl, ?_⟩
    by_cases hy : m = 0
    · subst hy
      refine iteNS rfl ?_
      refine ⟨_, rfl, _, rfl, ?_⟩
      have hx : x = a.gcd b := by rw [← e, Nat.gcd_zero_right]
      rw [if_neg (by omega), hx]
      exact q
    · have hd : decide (vN m = V.int 0) = false := decide_eq_false fun z => by
        injection z with z
        omega
      rw [hd]
      refine iteT ⟨fun σ' H2 => ∃ x' y' : Nat, σ' = [some (vN x'), some (vN y')] ∧ H2 = H' ∧ x'.gcd y' = a.gcd b ∧ y' < m, fun σ' H' ⟨x', y', e1, e2, e3, e4⟩ => ⟨y', e4, x', y', e1, e2, e3, rfl⟩, ?_⟩
      refine ⟨_, rfl, _, rfl, _, rfl, _, _, rfl, rfl, (by show (0 : Int) < (m : Int); omega), _, _, rfl, ?_⟩
      exact ⟨m, x % m, rfl, rfl, (gcd_step x m hy).trans e, Nat.mod_lt _ (by omega)⟩

def sp_lowered : Sp := fun vs H Q _ => ∃ a b : Nat, vs = [vN a, vN b] ∧ 0 < b ∧ b < 2 ^ 4000 ∧ ∀ v H', Same H H' → Tq H' v (encR (low a b)) → Q v H'
theorem sc_lowered : FnScope ["above", "low", "shared"] ["above", "low"] (defScope s_lowered) := ⟨rfl, rfl, rfl, by decide +kernel, rfl, by decide +kernel, by decide +kernel⟩
theorem ok_lowered (C : Cal P w K mg base 1 "common" sp_common []) (D : DefAt K mg "lowered" s_lowered ["above", "low"]) : Cal P w K mg base 2 "lowered" sp_lowered [] := by
  refine cal_ok D sc_lowered (fun vs H Q E h => ?_) (fun f cdv A outer s H vs Q E hr h => ?_)
  · obtain ⟨a, b, rfl, _⟩ := h
    rfl
  · obtain ⟨a, b, rfl, hb, hs, q⟩ := h
    refine ⟨_, pss_cons (ps_set (i := 2) sc_lowered.nd rfl (Or.inl rfl) (pe_c C hr (by decide) (by rfl) (pa2 (pv 0) (pv 1))))
      (pss_one (ps_ret (pe_tup (pa2 (pe_op op_fdivW (pv 0) (pv 2)) (pe_op op_fdivW (pv 1) (pv 2)))))), ?_⟩
    have hg : 0 < a.gcd b := Nat.gcd_pos_of_pos_right a hb
    have hgs : a.gcd b < 2 ^ 4000 := Nat.lt_of_le_of_lt (Nat.le_of_dvd hb (Nat.gcd_dvd_right a b)) hs
    have hW : ∀ x : Int, CDivW x ((a.gcd b : Nat) : Int) := fun x => wide_div (by omega) (nabs hgs) (by decide) (by decide)
    refine ⟨_, rfl, _, rfl, a, b, rfl, ?_⟩
    refine ⟨_, rfl, _, rfl, _, _, rfl, rfl, hW _, _, rfl, _, rfl, _, _, rfl, rfl, hW _, (by show 2 ≤ sizeLine; decide), fun p hp => ?_⟩
    exact q _ _ (Same.new hp) (Tq.ofRat (r := low a b) upd_same)

def sp_plus : Sp := fun vs H Q _ => ∃ (x y : V) (r t : Rat2), vs = [x, y] ∧ Tq H x (encR r) ∧ Tq H y (encR t) ∧ 0 < r.2 ∧ 0 < t.2 ∧ r.1 < 2 ^ 1000 ∧ r.2 < 2 ^ 1000 ∧ t.1 < 2 ^ 1000 ∧ t.2 < 2 ^ 1000 ∧
  ∀ v H', Same H H' → Tq H' v (encR (plusR r t)) → Q v H'
theorem sc_plus : FnScope ["one", "other"] ["one", "other"] (defScope s_plus) := ⟨rfl, rfl, rfl, by decide +kernel, rfl, by decide +kernel, by decide +kernel⟩
theorem ok_plus (C : Cal P w K mg base 2 "lowered" sp_lowered []) (D : DefAt K mg "plus" s_plus ["one", "other"]) : Cal P w K mg base 3 "plus" sp_plus [] := by
  refine cal_ok D sc_plus (fun vs H Q E h => ?_) (fun f cdv A outer s H vs Q E hr h => ?_)
  · obtain ⟨x, y, r, t, rfl, _⟩ := h
    rfl
  · obtain ⟨x, y, r, t, rfl, hx, hy, p1, p2, b1, b2, b3, b4, q⟩ := h
    obtain ⟨a1, rfl, ha1⟩ := hx.rat
    obtain ⟨a2, rfl, ha2⟩ := hy.rat
    refine ⟨_, pss_one (ps_ret (pe_c C hr (by decide) (by rfl) (pa2
      (pe_op op_add (pe_op op_mulW (x_ixT (pv 0) pe_int (fun _ _ => rfl)) (x_ixT (pv 1) pe_int (fun _ _ => rfl))) (pe_op op_mulW (x_ixT (pv 1) pe_int (fun _ _ => rfl)) (x_ixT (pv 0) pe_int (fun _ _ => rfl))))
      (pe_op op_mulW (x_ixT (pv 0) pe_int (fun _ _ => rfl)) (x_ixT (pv 1) pe_int (fun _ _ => rfl)))))), ?_⟩
    have s1 : SqT K H a1 [vN r.1, vN r.2] := .inl (.inl ha1)
    have s2 : SqT K H a2 [vN t.1, vN t.2] := .inl (.inl ha2)
    have hm : ∀ {i j : Nat}, i < 2 ^ 1000 → j < 2 ^ 1000 → CMulW (i : Int) (j : Int) := fun hi hj => wide_mul (nabs hi) (nabs hj) (by decide) (by decide) (by decide)
    refine ⟨_, rfl, a1, _, 0, _, rfl, rfl, s1, rfl, _, rfl, a2, _, 1, _, rfl, rfl, s2, rfl, _, _, rfl, rfl, hm b1 b4, ?_⟩
    refine ⟨_, rfl, a2, _, 0, _, rfl, rfl, s2, rfl, _, rfl, a1, _, 1, _, rfl, rfl, s1, rfl, _, _, rfl, rfl, hm b3 b2, _, _, rfl, rfl, ?_⟩
    refine ⟨_, rfl, a1, _, 1, _, rfl, rfl, s1, rfl, _, rfl, a2, _, 1, _, rfl, rfl, s2, rfl, _, _, rfl, rfl, hm b2 b4, ?_⟩
    refine ⟨r.1 * t.2 + t.1 * r.2, r.2 * t.2, rfl, Nat.mul_pos p1 p2, ?_, fun v H' sm h => q v H' sm h⟩
    have h1 : r.2 * t.2 < 2 ^ 1000 * 2 ^ 1000 := Nat.mul_lt_mul'' b2 b4
    rw [← Nat.pow_add] at h1
    exact Nat.lt_of_lt_of_le h1 (Nat.pow_le_pow_right (by decide) (by decide))

theorem sc_lcommon : FnScope ["_law_one", "_law_other"] ["_law_one", "_law_other"] (defScope s_lcommon) := ⟨rfl, rfl, rfl, by decide +kernel, rfl, by decide +kernel, by decide +kernel⟩
theorem ok_lcommon (T : Bt mg) (D : DefAt K mg "_law_common" s_lcommon ["_law_one", "_law_other"]) : Cal P w K mg base 1 "_law_common" sp_common [] := by
  refine cal_ok D sc_lcommon (fun vs H Q E h => ?_) (fun f cdv A outer s H vs Q E hr h => ?_)
  · obtain ⟨a, b, rfl, _⟩ := h
    rfl
  · obtain ⟨a, b, rfl, q⟩ := h
    refine ⟨_, pss_cons (ps_par (i := 0) (j := 1) (by rfl) sc_lcommon.nd rfl rfl (by decide) rfl rfl (pa2 (x_abs T (pv 0)) (x_abs T (pv 1))) (by rfl))
      (pss_cons (ps_while PassesOwn.never (pt_cmpR op_ne (pv 1) pe_int (nomark _))
      (pss_one (ps_par (i := 0) (j := 1) (by rfl) sc_lcommon.nd rfl rfl (by decide) rfl rfl (pa2 (pv 1) (pe_op op_mod (pv 0) (pv 1))) (by rfl))))
      (pss_one (ps_ret (pv 0)))), ?_⟩
    have habs : ∀ n : Nat, (if (n : Int) < 0 then -(n : Int) else (n : Int)) = (n : Int) := fun n => if_neg (by omega)
    refine ⟨_, rfl, _, rfl, ?_⟩
    rw [habs]
    refine ⟨_, rfl, _, rfl, ?_⟩
    rw [habs]
    refine ⟨_, _, rfl, ?_⟩
    refine ⟨fun m σ H' => ∃ x y : Nat, σ = [some (vN x), some (vN y)] ∧ H' = H ∧ x.gcd y = a.gcd b ∧ m = y, ⟨b, a, b, rfl, rfl, rfl, rfl⟩, ?_⟩
    rintro m σ H' ⟨x, y, rfl, rfl, e, rfl⟩
    refine ⟨_, rfl, rfl, _, rfl, ?_⟩
    by_cases hy : m = 0
    · subst hy
      refine iteNS rfl ?_
      refine ⟨_, rfl, ?_⟩
      have hx : x = a.gcd b := by rw [← e, Nat.gcd_zero_right]
      rw [hx]
      exact q
    · have hd : decide (vN m = V.int 0) = false := decide_eq_false fun z => by
        injection z with z
        omega
      rw [hd]
      refine iteT ⟨fun σ' H2 => ∃ x' y' : Nat, σ' = [some (vN x'), some (vN y')] ∧ H2 = H' ∧ x'.gcd y' = a.gcd b ∧ y' < m, fun σ' H' ⟨x', y', e1, e2, e3, e4⟩ => ⟨y', e4, x', y', e1, e2, e3, rfl⟩, ?_⟩
      refine ⟨_, rfl, _, rfl, _, rfl, _, _, rfl, rfl, (by show (0 : Int) < (m : Int); omega), _, _, rfl, ?_⟩
      exact ⟨m, x % m, rfl, rfl, (gcd_step x m hy).trans e, Nat.mod_lt _ (by omega)⟩
theorem sc_llowered : FnScope ["_law_above", "_law_low", "_law_shared"] ["_law_above", "_law_low"] (defScope s_llowered) := ⟨rfl, rfl, rfl, by decide +kernel, rfl, by decide +kernel, by decide +kernel⟩
theorem ok_llowered (C : Cal P w K mg base 1 "_law_common" sp_common []) (D : DefAt K mg "_law_lowered" s_llowered ["_law_above", "_law_low"]) : Cal P w K mg base 2 "_law_lowered" sp_lowered [] := by
  refine cal_ok D sc_llowered (fun vs H Q E h => ?_) (fun f cdv A outer s H vs Q E hr h => ?_)
  · obtain ⟨a, b, rfl, _⟩ := h
    rfl
  · obtain ⟨a, b, rfl, hb, hs, q⟩ := h
    refine ⟨_, pss_cons (ps_set (i := 2) sc_llowered.nd rfl (Or.inl rfl) (pe_c C hr (by decide) (by rfl) (pa2 (pv 0) (pv 1))))
      (pss_one (ps_ret (pe_tup (pa2 (pe_op op_fdivW (pv 0) (pv 2)) (pe_op op_fdivW (pv 1) (pv 2)))))), ?_⟩
    have hg : 0 < a.gcd b := Nat.gcd_pos_of_pos_right a hb
    have hgs : a.gcd b < 2 ^ 4000 := Nat.lt_of_le_of_lt (Nat.le_of_dvd hb (Nat.gcd_dvd_right a b)) hs
    have hW : ∀ x : Int, CDivW x ((a.gcd b : Nat) : Int) := fun x => wide_div (by omega) (nabs hgs) (by decide) (by decide)
    refine ⟨_, rfl, _, rfl, a, b, rfl, ?_⟩
    refine ⟨_, rfl, _, rfl, _, _, rfl, rfl, hW _, _, rfl, _, rfl, _, _, rfl, rfl, hW _, (by show 2 ≤ sizeLine; decide), fun p hp => ?_⟩
    exact q _ _ (Same.new hp) (Tq.ofRat (r := low a b) upd_same)
theorem sc_lplus : FnScope ["_law_one", "_law_other"] ["_law_one", "_law_other"] (defScope s_lplus) := ⟨rfl, rfl, rfl, by decide +kernel, rfl, by decide +kernel, by decide +kernel⟩
theorem ok_lplus (C : Cal P w K mg base 2 "_law_lowered" sp_lowered []) (D : DefAt K mg "_law_plus" s_lplus ["_law_one", "_law_other"]) : Cal P w K mg base 3 "_law_plus" sp_plus [] := by
  refine cal_ok D sc_lplus (fun vs H Q E h => ?_) (fun f cdv A outer s H vs Q E hr h => ?_)
  · obtain ⟨x, y, r, t, rfl, _⟩ := h
    rfl
  · obtain ⟨x, y, r, t, rfl, hx, hy, p1, p2, b1, b2, b3, b4, q⟩ := h
    obtain ⟨a1, rfl, ha1⟩ := hx.rat
    obtain ⟨a2, rfl, ha2⟩ := hy.rat
    refine ⟨_, pss_one (ps_ret (pe_c C hr (by decide) (by rfl) (pa2
      (pe_op op_add (pe_op op_mulW (x_ixT (pv 0) pe_int (fun _ _ => rfl)) (x_ixT (pv 1) pe_int (fun _ _ => rfl))) (pe_op op_mulW (x_ixT (pv 1) pe_int (fun _ _ => rfl)) (x_ixT (pv 0) pe_int (fun _ _ => rfl))))
      (pe_op op_mulW (x_ixT (pv 0) pe_int (fun _ _ => rfl)) (x_ixT (pv 1) pe_int (fun _ _ => rfl)))))), ?_⟩
    have s1 : SqT K H a1 [vN r.1, vN r.2] := .inl (.inl ha1)
    have s2 : SqT K H a2 [vN t.1, vN t.2] := .inl (.inl ha2)
    have hm : ∀ {i j : Nat}, i < 2 ^ 1000 → j < 2 ^ 1000 → CMulW (i : Int) (j : Int) := fun hi hj => wide_mul (nabs hi) (nabs hj) (by decide) (by decide) (by decide)
    refine ⟨_, rfl, a1, _, 0, _, rfl, rfl, s1, rfl, _, rfl, a2, _, 1, _, rfl, rfl, s2, rfl, _, _, rfl, rfl, hm b1 b4, ?_⟩
    refine ⟨_, rfl, a2, _, 0, _, rfl, rfl, s2, rfl, _, rfl, a1, _, 1, _, rfl, rfl, s1, rfl, _, _, rfl, rfl, hm b3 b2, _, _, rfl, rfl, ?_⟩
    refine ⟨_, rfl, a1, _, 1, _, rfl, rfl, s1, rfl, _, rfl, a2, _, 1, _, rfl, rfl, s2, rfl, _, _, rfl, rfl, hm b2 b4, ?_⟩
    refine ⟨r.1 * t.2 + t.1 * r.2, r.2 * t.2, rfl, Nat.mul_pos p1 p2, ?_, fun v H' sm h => q v H' sm h⟩
    have h1 : r.2 * t.2 < 2 ^ 1000 * 2 ^ 1000 := Nat.mul_lt_mul'' b2 b4
    rw [← Nat.pow_add] at h1
    exact Nat.lt_of_lt_of_le h1 (Nat.pow_le_pow_right (by decide) (by decide))
end
end L2.SB
/-! List comprehensions, once. -/
namespace L2.SB
open PySem PySem.Spec PyProof.Rows Sb
theorem Paired.snoc {α β : Type} {R : α → β → Prop} {xs : List α} {ys : List β} {x : α} {y : β} (q : Paired R xs ys) (h : R x y) : Paired R (xs ++ [x]) (ys ++ [y]) := by
  induction q with
  | nil => exact .cons h .nil
  | cons r _ ih => exact .cons r ih
theorem filter_range_succ (p : Nat → Bool) (i : Nat) : (List.range (i + 1)).filter p = (List.range i).filter p ++ (if p i = true then [i] else []) := by
  rw [List.range_succ, List.filter_append]
  congr 1
  cases h : p i <;> simp [h]
theorem filter_range_len (p : Nat → Bool) (i : Nat) : ((List.range i).filter p).length ≤ i := by
  have := List.length_filter_le p (List.range i)
  rwa [List.length_range] at this
/-- a comprehension whose turns leave all that is tracked as it is: p i: the i-th is kept; R i: what is known of its value -/
theorem lc_gen {J : It} {n : Nat} {G : Hp → Prop} {Y : Nat → Hp → V → Hp → Prop} (w : Walk J n G Y) {g : TG} {tt : L2.TT} {te : TE} {vs : List Nat} {σ : St} {H1 : Hp} {D : Addr} {Qd : Hp → Prop}
    (p : Nat → Bool) (R : Nat → V → Hp → Prop) (hD : H1 D = none) (hn : n < sizeLine) (hR : ∀ i v H H', TT H H' → R i v H → R i v H') (hG : ∀ H, Same H1 H → G H)
    (hs : ∀ i x H H', i < n → Same H1 H → Y i H x H' → ∀ (K : VK) (Kf : Hp → Prop), (p i = true → ∀ y H4, Same H H4 → R i y H4 → K y H4) → (p i = false → ∀ H4, Same H H4 → Kf H4) →
      g x (wipe σ vs) H' fun σ2 H2 => wipe σ2 vs = wipe σ vs ∧ tt σ2 H2 fun b H3 => if b = true then te σ2 H3 K else Kf H3)
    (hd : ∀ H' ys, Same H1 H' → H' D = some (.lst ys) → Paired (fun j y => R j y H') ((List.range n).filter p) ys → Qd H') :
    ∃ W : Nat → Nat → Hp → Prop, (∃ m, W 0 m (upd H1 D (.lst []))) ∧ ∀ i m H, W i m H →
      (J.stop i H ∧ Qd H) ∨ (J.go i H ∧ ∃ Nx : Hp → Prop, (∀ H', Nx H' → ∃ m', m' < m ∧ W (i + 1) m' H') ∧ ∀ x H', J.yld i H x H' → g x (wipe σ vs) H' fun σ2 H2 => wipe σ2 vs = wipe σ vs ∧ tt σ2 H2 fun b H3 =>
        if b = true then te σ2 H3 fun y H4 => ∃ acc, H4 D = some (.lst acc) ∧ acc.length < sizeLine ∧ Nx (upd H4 D (.lst (acc ++ [y]))) else Nx H3) := by
  refine lc_it w (fun i H => Same H1 H ∧ ∃ ys, H D = some (.lst ys) ∧ Paired (fun j y => R j y H) ((List.range i).filter p) ys) ⟨Same.new hD, [], upd_same, .nil⟩ (fun i H _ h => hG H h.1) ?_ ?_
  · rintro i x H H' hi ⟨s, ys, e, pr⟩ y
    refine hs i x H H' hi s y _ _ (fun hp z H4 s4 r => ?_) (fun hp H4 s4 => ?_)
    · have e4 : H4 D = some (.lst ys) := s4 _ _ e
      have hl : ys.length < sizeLine := by
        have h1 := pr.lenP
        have h2 := filter_range_len p i
        omega
      have tt4 : TT H4 (upd H4 D (.lst (ys ++ [z]))) := TT.put e4 fun _ z => nomatch z
      refine ⟨ys, e4, hl, fun b o eb => ?_, _, upd_same, ?_⟩
      · rw [upd_ne (ne_of_none eb hD)]
        exact s4 _ _ (s _ _ eb)
      · rw [filter_range_succ, if_pos hp]
        exact Paired.snoc (pr.monoP fun j v h => hR j v _ _ (s4.tt.trans tt4) h) (hR i z _ _ tt4 r)
    · refine ⟨s.trans s4, ys, s4 _ _ e, ?_⟩
      rw [filter_range_succ, if_neg (by rw [hp]; exact Bool.false_ne_true), List.append_nil]
      exact pr.monoP fun j v h => hR j v _ _ s4.tt h
  · rintro H ⟨s, ys, e, pr⟩
    exact hd H ys s e pr
theorem filter_true (n : Nat) : (List.range n).filter (fun _ => true) = List.range n := List.filter_eq_self.mpr fun _ _ => rfl
/-- .. of all items -/
theorem lc_map {J : It} {n : Nat} {G : Hp → Prop} {Y : Nat → Hp → V → Hp → Prop} (w : Walk J n G Y) {g : TG} {te : TE} {vs : List Nat} {σ : St} {H1 : Hp} {D : Addr} {Qd : Hp → Prop}
    (R : Nat → V → Hp → Prop) (hD : H1 D = none) (hn : n < sizeLine) (hR : ∀ i v H H', TT H H' → R i v H → R i v H') (hG : ∀ H, Same H1 H → G H)
    (hs : ∀ i x H H', i < n → Same H1 H → Y i H x H' → ∀ (K : VK), (∀ y H4, Same H H4 → R i y H4 → K y H4) →
      g x (wipe σ vs) H' fun σ2 H2 => wipe σ2 vs = wipe σ vs ∧ te σ2 H2 K)
    (hd : ∀ H' ys, Same H1 H' → H' D = some (.lst ys) → Paired (fun j y => R j y H') (List.range n) ys → Qd H') :
    ∃ W : Nat → Nat → Hp → Prop, (∃ m, W 0 m (upd H1 D (.lst []))) ∧ ∀ i m H, W i m H →
      (J.stop i H ∧ Qd H) ∨ (J.go i H ∧ ∃ Nx : Hp → Prop, (∀ H', Nx H' → ∃ m', m' < m ∧ W (i + 1) m' H') ∧ ∀ x H', J.yld i H x H' → g x (wipe σ vs) H' fun σ2 H2 => wipe σ2 vs = wipe σ vs ∧ tYes σ2 H2 fun b H3 =>
        if b = true then te σ2 H3 fun y H4 => ∃ acc, H4 D = some (.lst acc) ∧ acc.length < sizeLine ∧ Nx (upd H4 D (.lst (acc ++ [y]))) else Nx H3) := by
  refine lc_gen w (tt := tYes) (fun _ => true) R hD hn hR hG (fun i x H H' hi s y K Kf h1 h2 => ?_) (fun H' ys s e pr => hd H' ys s e (by rw [filter_true] at pr; exact pr))
  have q := hs i x H H' hi s y K (h1 rfl)
  exact q
/-- of pairs: what stands at the places -/
theorem paired_range {R : Nat → V → Prop} : ∀ {n : Nat} {ys : List V}, Paired R (List.range n) ys → ys.length = n ∧ ∀ i y, ys[i]? = some y → R i y := by
  intro n ys h
  have hl := h.lenP
  rw [List.length_range] at hl
  refine ⟨hl.symm, fun i y e => ?_⟩
  obtain ⟨j, hj, r⟩ := h.getQ e
  rw [List.getElem?_range (by have := (List.getElem?_eq_some_iff.mp e).1; omega)] at hj
  cases hj
  exact r
/-- places and what stands there -/
theorem paired_places {α : Type} {q : α → Bool} (b : List α) : Paired (fun j x => b[j]? = some x) ((List.range b.length).filter fun i => (b[i]?).any q) (b.filter q) := by
  have main : ∀ n, n ≤ b.length → Paired (fun j x => b[j]? = some x) ((List.range n).filter fun i => (b[i]?).any q) ((b.take n).filter q) := by
    intro n
    induction n with
    | zero => intro _; exact .nil
    | succ n ih =>
      intro h
      have hn : n < b.length := h
      rw [filter_range_succ, List.take_add_one, List.filter_append, List.getElem?_eq_getElem hn]
      show Paired _ _ ((b.take n).filter q ++ [b[n]].filter q)
      have h1 := ih (Nat.le_of_lt hn)
      cases hq : q b[n] with
      | true =>
        rw [if_pos (by show q b[n] = true; exact hq), List.filter_cons_of_pos hq]
        exact Paired.snoc h1 (List.getElem?_eq_getElem hn)
      | false =>
        rw [if_neg (by show ¬ q b[n] = true; rw [hq]; exact Bool.false_ne_true), List.filter_cons_of_neg (by rw [hq]; exact Bool.false_ne_true)]
        rw [List.append_nil]
        exact (List.append_nil _).symm ▸ h1
  have := main b.length (Nat.le_refl _)
  rwa [List.take_length] at this
theorem paired_comp {α β γ : Type} {R : α → β → Prop} {S : α → γ → Prop} {T : β → γ → Prop} (h : ∀ a b c, R a b → S a c → T b c) : ∀ {xs : List α} {ys : List β} {zs : List γ}, Paired R xs ys → Paired S xs zs → Paired T ys zs := by
  intro xs ys zs p
  induction p generalizing zs with
  | nil => intro q; cases q; exact .nil
  | cons r _ ih =>
    intro q
    cases q with
    | cons s q => exact .cons (h _ _ _ r s) (ih q)
theorem paired_filter {α : Type} {q : α → Bool} {b : List α} {S : α → V → Prop} {ys : List V} (h : Paired (fun j y => ∃ x, b[j]? = some x ∧ S x y) ((List.range b.length).filter fun i => (b[i]?).any q) ys) : Paired S (b.filter q) ys :=
  paired_comp (fun a x y e ⟨x', e', s⟩ => by rw [e] at e'; cases e'; exact s) (paired_places b) h
theorem paired_map {α : Type} {b : List α} {S : α → V → Prop} {ys : List V} (h : Paired (fun j y => ∃ x, b[j]? = some x ∧ S x y) (List.range b.length) ys) : Paired S b ys := by
  have e : (List.range b.length).filter (fun i => (b[i]?).any fun _ => true) = List.range b.length := by
    refine List.filter_eq_self.mpr fun i hi => ?_
    rw [List.getElem?_eq_getElem (List.mem_range.mp hi)]
    rfl
  have e2 : b.filter (fun _ => true) = b := List.filter_eq_self.mpr fun _ _ => rfl
  have := paired_filter (q := fun _ => true) (b := b) (S := S) (ys := ys) (by rw [e]; exact h)
  rwa [e2] at this
theorem paired_vN : ∀ {ls : List Nat} {ys : List V}, Paired (fun b y => y = vN b) ls ys → ys = ls.map vN := by
  intro ls ys h
  induction h with
  | nil => rfl
  | cons r _ ih => rw [r, ih]; rfl
theorem paired_tqs {H : Hp} {β : Type} {f : β → PyData} : ∀ {ls : List β} {ys : List V}, Paired (fun b y => Tq H y (f b)) ls ys → Tqs H ys (ls.map f) := by
  intro ls ys h
  induction h with
  | nil => exact .nil
  | cons r _ ih => exact .cons r ih
theorem paired_ints {β : Type} {f : β → Int} : ∀ {ls : List β} {ys : List V}, Paired (fun b y => y = V.int (f b)) ls ys → ys = (ls.map f).map V.int := by
  intro ls ys h
  induction h with
  | nil => rfl
  | cons r _ ih => rw [r, ih]; rfl
theorem paired_bools {β : Type} {f : β → Bool} : ∀ {ls : List β} {ys : List V}, Paired (fun b y => y = V.bl (f b)) ls ys → ys = (ls.map f).map V.bl := by
  intro ls ys h
  induction h with
  | nil => rfl
  | cons r _ ih => rw [r, ih]; rfl
/-- a datum at a place -/
theorem Tqs.at {H : Hp} {β : Type} {f : β → PyData} {ls : List β} {ys : List V} (h : Tqs H ys (ls.map f)) {i : Nat} {y : V} (e : ys[i]? = some y) : ∃ b, ls[i]? = some b ∧ Tq H y (f b) := by
  obtain ⟨d, hd, q⟩ := h.getV e
  rw [List.getElem?_map] at hd
  obtain ⟨b, hb, rfl⟩ := Option.map_eq_some_iff.mp hd
  exact ⟨b, hb, q⟩
end L2.SB
/-! == of data; zip of two tuples. -/
namespace L2.SB
open PySem PySem.Spec PyProof.Rows Sb
open PySem.W (alike dataLt)
mutual
theorem Tq.lay {H : Hp} : ∀ {d : PyData} {v : V}, Tq H v d → d.canLay0 = true
  | _, _, .int i => rfl
  | _, _, .tup (ds := ds) h q => by
    show PyData.canLay0 (.tuple ds) = true
    rw [PyData.canLay0]
    exact Tqs.lay q
theorem Tqs.lay {H : Hp} : ∀ {ds : List PyData} {vs : List V}, Tqs H vs ds → PyData.canLayAll0 ds = true
  | _, _, .nil => by rw [PyData.canLayAll0]
  | _, _, .cons h q => by rw [PyData.canLayAll0, Tq.lay h, Tqs.lay q]; rfl
end
section
variable {X : Cx}
def rEqT : R2 := fun x y H Q => ∃ d e, Tq H x d ∧ Tq H y e ∧ d.depth ≤ 8 ∧ Q (.bl (PyData.eqv d e)) H
theorem op_eqT (hu : X.A.units + 14 < cLine) : OpR X (compareOp .Eq) rEqT := by
  intro pins s σ H x y v u Q I rx ry h
  obtain ⟨d, e, hd, he, hdp, q⟩ := h
  exact SeqAt.compareEq_reads (Tq.reads0 I hd rx) (Tq.reads0 I he ry) hd.lay he.lay (by have : min d.depth e.depth ≤ d.depth := Nat.min_le_left ..; omega) ⟨.bl (PyData.eqv d e), H, I, rfl, q⟩
theorem dp_ints {K : PySem.W.Frag} {H : Hp} : ∀ ns : List Int, DpAll K H (ns.map V.int) (ns.map PyData.int)
  | [] => .nil
  | n :: ns => .cons (.int n) (dp_ints ns)
theorem lay_ints : ∀ ns : List Int, PyData.canLayAll0 (ns.map PyData.int) = true
  | [] => by rw [List.map_nil, PyData.canLayAll0]
  | n :: ns => by rw [List.map_cons, PyData.canLayAll0, lay_ints ns]; rfl
theorem shaped_ints (ns : List Int) : SeqAt.shaped (.list (ns.map PyData.int)) = true := by
  unfold SeqAt.shaped
  rw [PyData.canLay0, lay_ints, PyData.depth, PySem.W.depth_ints]
  rfl
theorem eqv_ints0 (ns : List Int) : PyData.eqv (.list (ns.map PyData.int)) (.list []) = ns.isEmpty := by
  rw [PyData.eqv]
  cases ns <;> simp [PyData.eqvAll]
/-- a list of ints, compared with [] -/
def rEq0 (K : PySem.W.Frag) (neg : Bool) : R2 := fun x y H Q => ∃ (a b : Addr) (ns : List Int), x = .ref a ∧ y = .ref b ∧ SqL K H a (ns.map V.int) ∧ SqL K H b [] ∧ Q (.bl (if neg then !ns.isEmpty else ns.isEmpty)) H
theorem op_eq0 (hu : X.A.units + 64 < cLine) : OpR X (compareOp .Eq) (rEq0 X.K false) := by
  intro pins s σ H x y v u Q I rx ry h
  obtain ⟨a, b, ns, rfl, rfl, h1, h2, q⟩ := h
  exact op_eqD hu pins s σ H _ _ v u Q I rx ry ⟨_, _, .lst h1 (dp_ints ns), .lst h2 .nil, shaped_ints ns, shaped_ints [], by rw [eqv_ints0]; exact q⟩
theorem op_ne0 (hu : X.A.units + 64 < cLine) : OpR X (compareOp .NotEq) (rEq0 X.K true) := by
  intro pins s σ H x y v u Q I rx ry h
  obtain ⟨a, b, ns, rfl, rfl, h1, h2, q⟩ := h
  exact op_neD hu pins s σ H _ _ v u Q I rx ry ⟨_, _, .lst h1 (dp_ints ns), .lst h2 .nil, shaped_ints ns, shaped_ints [], by rw [eqv_ints0]; exact q⟩
end
section
variable {K : PySem.W.Frag} {a b : Addr} {xs ys : List V}
theorem walk_zipT {n : Nat} (hn : n = min xs.length ys.length) : Walk (RZ.ItzT K a b) n (fun H => SqT K H a xs ∧ SqT K H b ys) (YPair (fun i => xs[i]?) (fun i => ys[i]?)) := by
  subst hn
  refine ⟨fun i _ hi q => ?_, fun _ q => ⟨xs, ys, q.1, q.2, by omega⟩, fun i H v H' _ q y => ?_⟩
  · have h1 : i < xs.length := by omega
    have h2 : i < ys.length := by omega
    exact ⟨xs, ys, xs[i], ys[i], q.1, q.2, by simp [h1], by simp [h2]⟩
  · obtain ⟨T, x, z, h1, h2, h3, h4, h5⟩ := y
    exact ⟨T, x, z, h1, h2, h3, h4 xs q.1, h5 ys q.2⟩
theorem cut1 (xs : List V) : cutV xs (some 1) none = xs.drop 1 := by
  cases xs with
  | nil => rfl
  | cons x xs =>
    show ((x :: xs).drop (HT.sIx (x :: xs).length 0 (some ((1 : Nat) : Int)))).take (HT.sIx (x :: xs).length (x :: xs).length none - HT.sIx (x :: xs).length 0 (some ((1 : Nat) : Int))) = _
    rw [HT.sIx_nat, HT.sIx_none]
    have e : min 1 (x :: xs).length = 1 := by rw [List.length_cons]; omega
    rw [e]
    exact List.take_of_length_le (by simp)
end
/-- a name that is a local of its block -/
theorem pgn {X : Cx} {i : Nat} {x : Str} {pos : Pos} (hN : X.N.Nodup) (hi : X.N[i]? = some x) (hx : X.env.scope.names.lookup x = some .local) : PG X (.Name x pos) (gName i) := pg_name hN hi (.inl hx) (hf := .inr hx)
theorem hu10 {k : Nat} {A : Around} (r : Room k A) : A.units + 10 < cLine := by have := r.un; omega
theorem hu14 {k : Nat} {A : Around} (r : Room k A) : A.units + 14 < cLine := by have := r.un; omega
theorem hu64 {k : Nat} {A : Around} (r : Room k A) : A.units + 64 < cLine := by have := r.un; omega
theorem sqT {K : PySem.W.Frag} {H : Hp} {a : Addr} {xs : List V} (h : H a = some (.tup xs)) : SqT K H a xs := .inl (.inl h)
theorem sqL {K : PySem.W.Frag} {H : Hp} {a : Addr} {xs : List V} (h : H a = some (.lst xs)) : SqL K H a xs := .inl (.inl h)
theorem sz1000 {n : Nat} (h : n ≤ 1000000) : n < sizeLine := Nat.lt_of_le_of_lt h (by decide)
end L2.SB
/-! The walk: bags. -/
namespace L2.SB
open PySem PySem.Spec PyProof.Rows Sb
open PySem.W (alike dataLt)
open C8 (Cal pe_c pe_gc)

abbrev s_is_rising : Stmt := top 11
abbrev s_is_bag : Stmt := top 12
abbrev s_need_bags : Stmt := top 13
section
variable {P : Program} {w : World} {K : PySem.W.Frag} {mg : Str → Option Value} {base : Heap}
def Rises (ds : List PyData) : Prop := ∀ i d e, ds[i]? = some d → ds[i + 1]? = some e → alike d e = true ∧ d.depth ≤ 8 ∧ dataLt d e = true
def sp_is_rising : Sp := fun vs H Q _ => ∃ (v : V) (ds : List PyData), vs = [v] ∧ Tq H v (.tuple ds) ∧ ds ≠ [] ∧ ds.length ≤ 1000 ∧ Rises ds ∧ ∀ H', Same H H' → Q (.bl true) H'
theorem sc_is_rising : FnScope ["value", "one", "other"] ["value"] (defScope s_is_rising) := ⟨rfl, rfl, rfl, by decide +kernel, rfl, by decide +kernel, by decide +kernel⟩
theorem ok_is_rising (T : Bt mg) (D : DefAt K mg "is_rising" s_is_rising ["value"]) : Cal P w K mg base 1 "is_rising" sp_is_rising [] := by
  refine cal_ok D sc_is_rising (fun vs H Q E h => ?_) (fun f cdv A outer s H vs Q E hr h => ?_)
  · obtain ⟨v, ds, rfl, _⟩ := h
    rfl
  · obtain ⟨v, ds, rfl, hv, hne, hl, hri, q⟩ := h
    have hu := room10 hr
    obtain ⟨a, xs, rfl, ha, hx⟩ := hv.tupInv
    refine ⟨_, pss_one (ps_ret (x_all T rfl (pe_lc (own := [("one", 1), ("other", 2)]) (g := gTup K 2 (gCons (gName 1) (gCons (gName 2) gNil))) (tt := tYes) (by rfl) sc_is_rising.nd (RZ.pi_zipA (by rfl) T.zip (pa2 (pv 0) (pe_slice sl_tup (pv 0) (po_some pe_int) po_none)))
      (blkOk_by (N := ["value", "one", "other"]) (sc := defScope s_is_rising) (by decide +kernel))
      (fun _ _ _ _ _ => pg_tup (n := 2) rfl (pgs_cons (pgn (i := 1) sc_is_rising.nd rfl rfl) (pgs_cons (pgn (i := 2) sc_is_rising.nd rfl rfl) pgs_nil)))
      (fun _ _ _ _ _ => pts_nil) (fun _ _ _ _ _ => pe_cmpR (op_ltD (hu10 hr)) (pv 1) (pv 2) (nomark _))))), ?_⟩
    have hxl := hx.len
    have hx0 : xs.length ≠ 0 := by
      rw [hxl]
      exact fun z => hne (List.length_eq_zero_iff.mp z)
    refine ⟨_, rfl, _, rfl, _, rfl, a, xs, rfl, sqT ha, ?_, fun p hp => ?_⟩
    · intro ⟨h1, _⟩
      have e : HT.sIx xs.length 0 (some ((1 : Nat) : Int)) = 0 := h1
      rw [HT.sIx_nat] at e
      omega
    · rw [cut1]
      refine ⟨a, p, xs, xs.drop 1, rfl, .inr ⟨sqT (by rw [upd_ne (ne_of_none ha hp)]; exact ha), sqT upd_same, fun D0 hD => ?_⟩⟩
      have s0 : Same H (upd H p (.tup (xs.drop 1))) := Same.new hp
      refine lc_map (walk_zipT (n := xs.length - 1) (by rw [List.length_drop]; omega)) (fun i y _ => y = .bl true) hD (sz1000 (by omega)) (fun _ _ _ _ _ h => h) (fun H' s => ⟨sqT (s _ _ (s0 _ _ ha)), sqT (s _ _ upd_same)⟩) ?_ ?_
      · rintro i x H1 H2 hi s1 ⟨T0, y, z, rfl, hT, rfl, e1, e2⟩ K0 hK
        have e2' : xs[i + 1]? = some z := by
          have h : (xs.drop 1)[i]? = some z := e2
          rw [List.getElem?_drop, Nat.add_comm] at h
          exact h
        obtain ⟨d, hd, q1⟩ := hx.getV e1
        obtain ⟨e, he, q2⟩ := hx.getV e2'
        obtain ⟨r1, r2, r3⟩ := hri i d e hd he
        have tt : TT H (upd H1 T0 (.tup [y, z])) := (s0.trans s1).tt.trans (TT.new hT)
        refine ⟨T0, [y, z], rfl, sqT upd_same, rfl, y, [z], rfl, z, [], rfl, rfl, rfl, ?_⟩
        refine ⟨_, rfl, _, rfl, d, e, q1.mono tt, q2.mono tt, r1, r2, ?_⟩
        exact hK _ _ (Same.new hT) (by rw [r3])
      · intro H' ys s1 e pr
        have eb : ys = ((List.range (xs.length - 1)).map fun _ => true).map V.bl := paired_bools pr
        refine ⟨D0, (List.range (xs.length - 1)).map fun _ => true, rfl, sqL (by rw [e, eb]), ?_⟩
        have ea : ((List.range (xs.length - 1)).map fun _ => true).all id = true := by rw [List.all_eq_true]; intro b hb; obtain ⟨_, _, rfl⟩ := List.mem_map.mp hb; rfl
        rw [ea]
        exact q _ (s0.trans s1)
end
end L2.SB
/-! The walk: bags, further. -/
namespace L2.SB
open PySem PySem.Spec PyProof.Rows Sb
open PySem.W (alike dataLt)
open C8 (Cal pe_c pe_gc)
/-- a bag as the program asks it -/
structure GoodB (b : Bag) : Prop where
  up : b.Pairwise (· < ·)
  two : 2 ≤ b.length
  lt : ∀ x, x ∈ b → x < 60
  len : b.length ≤ 60
def FamUp (F : Fam) : Prop := ∀ i b c, F[i]? = some b → F[i + 1]? = some c → dataLt (encB b) (encB c) = true
theorem rises_bag {b : Bag} (h : b.Pairwise (· < ·)) : Rises (b.map encN) := by
  intro i d e hd he
  rw [List.getElem?_map] at hd he
  obtain ⟨x, hx, rfl⟩ := Option.map_eq_some_iff.mp hd
  obtain ⟨y, hy, rfl⟩ := Option.map_eq_some_iff.mp he
  obtain ⟨h1, e1⟩ := List.getElem?_eq_some_iff.mp hx
  obtain ⟨h2, e2⟩ := List.getElem?_eq_some_iff.mp hy
  have hlt := List.pairwise_iff_getElem.mp h i (i + 1) h1 h2 (Nat.lt_succ_self _)
  rw [e1, e2] at hlt
  exact ⟨rfl, Nat.zero_le _, by rw [PySem.W.dataLt_int]; exact decide_eq_true (by omega)⟩
theorem rises_fam {F : Fam} (h : FamUp F) : Rises (F.map encB) := by
  intro i d e hd he
  rw [List.getElem?_map] at hd he
  obtain ⟨x, hx, rfl⟩ := Option.map_eq_some_iff.mp hd
  obtain ⟨y, hy, rfl⟩ := Option.map_eq_some_iff.mp he
  exact ⟨alike_B x y, Nat.le_trans (depth_B x) (by decide), h i x y hx hy⟩
section
variable {P : Program} {w : World} {K : PySem.W.Frag} {mg : Str → Option Value} {base : Heap}
def sp_is_bag : Sp := fun vs H Q _ => ∃ (v : V) (b : Bag), vs = [v] ∧ Tq H v (encB b) ∧ GoodB b ∧ ∀ H', Same H H' → Q (.bl true) H'
theorem sc_is_bag : FnScope ["value", "bead"] ["value"] (defScope s_is_bag) := ⟨rfl, rfl, rfl, by decide +kernel, rfl, by decide +kernel, by decide +kernel⟩
theorem ok_is_bag (T : Bt mg) (MB : ∃ u, mg "MOST_BEADS" = some u ∧ RelV (.int 60) u) (C1 : Cal P w K mg base 2 "is_in" sp_is_in []) (C2 : Cal P w K mg base 1 "is_rising" sp_is_rising []) (D : DefAt K mg "is_bag" s_is_bag ["value"]) : Cal P w K mg base 3 "is_bag" sp_is_bag [] := by
  refine cal_ok D sc_is_bag (fun vs H Q E h => ?_) (fun f cdv A outer s H vs Q E hr h => ?_)
  · obtain ⟨v, b, rfl, _⟩ := h
    rfl
  · obtain ⟨v, b, rfl, hv, hb, q⟩ := h
    obtain ⟨a, rfl, ha⟩ := hv.bag
    refine ⟨_, pss_cons (ps_if (PW.pt (pw_or (pt_not (pt_val (x_isi T (pa2 (pv 0) (x_tTuple T))))) (pw_or1 (pt_cmpR op_lt (x_len T (pv 0)) pe_int (nomark _))))) (pss_one (ps_ret pe_bl)) pss_nil)
      (pss_one (ps_ret (pe_and (x_all T rfl (pe_lc (own := [("bead", 1)]) (g := gName 1) (tt := tYes) (by rfl) sc_is_bag.nd (pi_tup (pv 0))
        (blkOk_by (N := ["value", "bead"]) (sc := defScope s_is_bag) (by decide +kernel)) (fun _ _ _ _ _ => pgn (i := 1) sc_is_bag.nd rfl rfl) (fun _ _ _ _ _ => pts_nil)
        (fun _ _ _ _ _ => pe_c C1 hr (by decide) (by rfl) (pa_cons (pv 1) (pa2 pe_int (pe_op op_sub (pe_gc (by rfl) MB) pe_int))))))
        (pe_one (pe_c C2 hr (by decide) (by rfl) (pa1 (pv 0))))))), ?_⟩
    refine ⟨_, rfl, _, _, _, _, true, rfl, .ty _, .base (.tup ha), kit_ty (by decide +kernel), true, rfl, ?_⟩
    refine iteF ⟨_, rfl, a, _, rfl, .inr (sqT ha), _, _, rfl, rfl, _, rfl, ?_⟩
    have h2 : ¬ ((b.map vN).length : Int) < 2 := by rw [List.length_map]; have := hb.two; omega
    rw [decide_eq_false h2]
    refine iteF ?_
    refine ⟨_, rfl, a, rfl, ⟨_, sqT ha⟩, fun D0 hD => ?_⟩
    refine lc_map (walk_tup (xs := b.map vN)) (fun i y _ => y = .bl true) hD (sz1000 (by rw [List.length_map]; have := hb.len; omega)) (fun _ _ _ _ _ h => h) (fun H' s => sqT (s _ _ ha)) ?_ ?_
    · rintro i x H1 H2 hi s1 ⟨rfl, e1⟩ K0 hK
      rw [List.getElem?_map] at e1
      obtain ⟨n, hn, rfl⟩ := Option.map_eq_some_iff.mp e1
      have hn60 := hb.lt n (List.mem_of_getElem? hn)
      refine ⟨rfl, ?_⟩
      refine ⟨_, rfl, _, _, rfl, rfl, n, 0, 59, rfl, hK _ _ (Same.refl _) ?_⟩
      rw [decide_eq_true (by omega), decide_eq_true (by omega)]
      rfl
    · intro H' ys s1 e pr
      have eb : ys = ((List.range (b.map vN).length).map fun _ => true).map V.bl := paired_bools pr
      refine ⟨D0, (List.range (b.map vN).length).map fun _ => true, rfl, sqL (by rw [e, eb]), ?_⟩
      have ea : ((List.range (b.map vN).length).map fun _ => true).all id = true := by rw [List.all_eq_true]; intro b hb; obtain ⟨_, _, rfl⟩ := List.mem_map.mp hb; rfl
      rw [ea]
      refine ⟨true, rfl, iteT ?_⟩
      refine ⟨_, rfl, _, b.map encN, rfl, hv.mono s1.tt, ?_, by rw [List.length_map]; have := hb.len; omega, rises_bag hb.up, fun H2 s2 => q H2 (s1.trans s2)⟩
      intro z
      have := hb.two
      rw [List.map_eq_nil_iff] at z
      rw [z] at this
      simp at this

def sp_need_bags : Sp := fun vs H Q _ => ∃ (v : V) (F : Fam), vs = [v] ∧ Tq H v (encF F) ∧ F ≠ [] ∧ F.length ≤ 1000 ∧ (∀ b, b ∈ F → GoodB b) ∧ FamUp F ∧ ∀ H', Same H H' → Q .non H'
theorem sc_need_bags : FnScope ["value", "bag"] ["value"] (defScope s_need_bags) := ⟨rfl, rfl, rfl, by decide +kernel, rfl, by decide +kernel, by decide +kernel⟩
theorem ok_need_bags (T : Bt mg) (C1 : Cal P w K mg base 3 "is_bag" sp_is_bag []) (C2 : Cal P w K mg base 1 "is_rising" sp_is_rising []) (D : DefAt K mg "need_bags" s_need_bags ["value"]) : Cal P w K mg base 4 "need_bags" sp_need_bags [] := by
  refine cal_ok D sc_need_bags (fun vs H Q E h => ?_) (fun f cdv A outer s H vs Q E hr h => ?_)
  · obtain ⟨v, F, rfl, _⟩ := h
    rfl
  · obtain ⟨v, F, rfl, hv, hne, hl, hb, hup, q⟩ := h
    obtain ⟨a, xs, rfl, ha, hx⟩ := hv.fam
    have hxl : xs.length = F.length := by rw [hx.len, List.length_map]
    refine ⟨_, pss_cons (ps_if (PW.pt (pw_or (pt_not (pt_val (x_isi T (pa2 (pv 0) (x_tTuple T))))) (pw_or (pt_cmpR (op_eqT (hu14 hr)) (pv 0) (pe_tup pa_nil) (nomark _))
        (pw_or1 (pt_not (pt_val (x_all T rfl (pe_lc (own := [("bag", 1)]) (g := gName 1) (tt := tYes) (by rfl) sc_need_bags.nd (pi_tup (pv 0))
        (blkOk_by (N := ["value", "bag"]) (sc := defScope s_need_bags) (by decide +kernel)) (fun _ _ _ _ _ => pgn (i := 1) sc_need_bags.nd rfl rfl) (fun _ _ _ _ _ => pts_nil)
        (fun _ _ _ _ _ => pe_c C1 hr (by decide) (by rfl) (pa1 (pv 1))))))))))) pss_never pss_nil)
      (pss_one (ps_if (pt_not (pt_val (pe_c C2 hr (by decide) (by rfl) (pa1 (pv 0))))) pss_never pss_nil)), ?_⟩
    refine ⟨_, rfl, _, _, _, _, true, rfl, .ty _, .base (.tup ha), kit_ty (by decide +kernel), true, rfl, ?_⟩
    refine iteF ⟨_, rfl, (by show 0 ≤ sizeLine; decide), fun p hp => ?_⟩
    have s0 : Same H (upd H p (.tup [])) := Same.new hp
    refine ⟨_, _, hv.mono s0.tt, .tup upd_same .nil, Nat.le_trans (depth_F F) (by decide), _, rfl, ?_⟩
    have e0 : PyData.eqv (encF F) (.tuple []) = false := by
      unfold encF
      rw [PyData.eqv]
      cases F with
      | nil => exact absurd rfl hne
      | cons b F => rw [List.map_cons, PyData.eqvAll]
    rw [e0]
    refine iteF ?_
    refine ⟨_, rfl, a, rfl, ⟨_, sqT (s0 _ _ ha)⟩, fun D0 hD => ?_⟩
    refine lc_map (walk_tup (xs := xs)) (fun i y _ => y = .bl true) hD (sz1000 (by omega)) (fun _ _ _ _ _ h => h) (fun H' s => sqT (s _ _ (s0 _ _ ha))) ?_ ?_
    · rintro i x H1 H2 hi s1 ⟨rfl, e1⟩ K0 hK
      obtain ⟨b, hb1, hb2⟩ := hx.at e1
      refine ⟨rfl, _, rfl, x, b, rfl, hb2.mono (s0.trans s1).tt, hb b (List.mem_of_getElem? hb1), fun H3 s3 => hK _ _ s3 rfl⟩
    · intro H' ys s1 e pr
      have eb : ys = ((List.range xs.length).map fun _ => true).map V.bl := paired_bools pr
      refine ⟨D0, (List.range xs.length).map fun _ => true, rfl, sqL (by rw [e, eb]), ?_⟩
      have ea : ((List.range xs.length).map fun _ => true).all id = true := by rw [List.all_eq_true]; intro b hb; obtain ⟨_, _, rfl⟩ := List.mem_map.mp hb; rfl
      rw [ea]
      refine ⟨true, rfl, iteF ?_⟩
      have s2 := s0.trans s1
      refine ⟨_, rfl, _, F.map encB, rfl, hv.mono s2.tt, fun z => hne (List.map_eq_nil_iff.mp z), by rw [List.length_map]; exact hl, rises_fam hup, fun H2 s3 => ⟨true, rfl, iteF (q H2 (s2.trans s3))⟩⟩
end
end L2.SB
/-! The walk: size_of, shared_by. -/
namespace L2.SB
open PySem PySem.Spec PyProof.Rows Sb
open PySem.W (alike dataLt)
open C8 (Cal pe_c pe_gc)

abbrev s_size_of : Stmt := top 14
abbrev s_shared_by : Stmt := top 15
def lastN (b : Bag) : Nat := b.getLastD 0
theorem last_split {b : Bag} (h : b ≠ []) : ∃ r, b = r ++ [lastN b] := by
  refine ⟨b.dropLast, ?_⟩
  unfold lastN
  rw [List.getLastD_eq_getLast?, List.getLast?_eq_some_getLast h]
  exact (List.dropLast_concat_getLast h).symm
theorem last_mem {b : Bag} (h : b ≠ []) : lastN b ∈ b := by
  obtain ⟨r, e⟩ := last_split h
  rw [e]
  unfold lastN
  simp
theorem last_top {b : Bag} (hu : b.Pairwise (· < ·)) {x : Nat} (hx : x ∈ b) : x ≤ lastN b := by
  have hne : b ≠ [] := List.ne_nil_of_mem hx
  obtain ⟨r, e⟩ := last_split hne
  generalize lastN b = l at e
  subst e
  rcases List.mem_append.mp hx with h | h
  · exact Nat.le_of_lt ((List.pairwise_append.mp hu).2.2 x h l (by simp))
  · rw [List.mem_singleton.mp h]; exact Nat.le_refl _
/-! ### {x: True for x in b} -/
def dd (c : List Nat) : List Nat := c.foldl (fun acc x => if x ∈ acc then acc else acc ++ [x]) []
theorem dd_snoc (c : List Nat) (x : Nat) : dd (c ++ [x]) = if x ∈ dd c then dd c else dd c ++ [x] := by
  unfold dd
  rw [List.foldl_append]
  rfl
theorem dd_rev {P : List Nat → Prop} (h0 : P []) (h1 : ∀ c x, P c → P (c ++ [x])) : ∀ c, P c := by
  intro c
  rw [← List.reverse_reverse c]
  generalize c.reverse = r
  induction r with
  | nil => exact h0
  | cons x r ih => rw [List.reverse_cons]; exact h1 _ _ ih
theorem mem_dd (c : List Nat) : ∀ x, x ∈ dd c ↔ x ∈ c := by
  refine dd_rev (P := fun c => ∀ x, x ∈ dd c ↔ x ∈ c) (fun x => Iff.rfl) (fun c y ih x => ?_) c
  rw [dd_snoc]
  split
  · rename_i h
    rw [ih, List.mem_append, List.mem_singleton]
    refine ⟨.inl, fun z => z.elim id fun e => ?_⟩
    subst e
    exact (ih _).mp h
  · rw [List.mem_append, List.mem_append, ih]
theorem nodup_dd (c : List Nat) : (dd c).Nodup := by
  refine dd_rev (P := fun c => (dd c).Nodup) List.nodup_nil (fun c y ih => ?_) c
  rw [dd_snoc]
  split
  · exact ih
  · rename_i h
    exact nd_snoc ih h
theorem len_dd (c : List Nat) : (dd c).length ≤ c.length := by
  refine dd_rev (P := fun c => (dd c).length ≤ c.length) (Nat.le_refl _) (fun c y ih => ?_) c
  rw [dd_snoc, List.length_append]
  split
  · omega
  · rw [List.length_append]; simp; omega
def dKv (l : List Nat) : List (Key × V) := l.map fun (x : Nat) => (Sum.inl (x : Int), V.bl true)
theorem key_eq (x y : Nat) : ((Sum.inl (x : Int) : Key) = Sum.inl (y : Int)) ↔ x = y := ⟨fun h => by injection h with h; omega, fun h => by rw [h]⟩
theorem any_dKv (l : List Nat) (x : Nat) : ((dKv l).any fun kv => decide (kv.1 = (Sum.inl (x : Int) : Key))) = decide (x ∈ l) := by
  unfold dKv
  rw [List.any_map]
  induction l with
  | nil => rfl
  | cons y l ih =>
    rw [List.any_cons, ih]
    by_cases e : y = x
    · subst e; simp
    · have e' : ¬ ((Sum.inl (y : Int) : Key) = Sum.inl (x : Int)) := fun z => e ((key_eq y x).mp z)
      have e2 : ¬ x = y := fun z => e z.symm
      simp [e', e2]
theorem valV_dKv (l : List Nat) (x : Nat) : (valV (dKv l) (Sum.inl (x : Int) : Key)).isSome = decide (x ∈ l) := by
  rw [← valV_any, any_dKv]
theorem putK_dKv (l : List Nat) (x : Nat) : putK (dKv l) (Sum.inl (x : Int) : Key) (V.bl true) = dKv (if x ∈ l then l else l ++ [x]) := by
  unfold putK
  rw [any_dKv]
  by_cases h : x ∈ l
  · rw [if_pos (decide_eq_true h), if_pos h]
    unfold dKv
    rw [List.map_map]
    refine List.map_congr_left fun y _ => ?_
    show (if (Sum.inl (y : Int) : Key) = Sum.inl (x : Int) then ((Sum.inl (y : Int) : Key), V.bl true) else (Sum.inl (y : Int), V.bl true)) = _
    split <;> rfl
  · rw [if_neg (by rw [decide_eq_false h]; exact Bool.false_ne_true), if_neg h]
    unfold dKv
    rw [List.map_append]
    rfl
/-- the comprehension itself, over a tuple of ints -/
theorem dc_true {K : PySem.W.Frag} {a : Addr} {b : Bag} {i0 : Nat} {σ : St} {H1 : Hp} {D : Addr} {Qd : Hp → Prop} (hD : H1 D = none) (ha : H1 a = some (.tup (b.map vN))) (hl : b.length ≤ 1000) (hi : i0 < σ.length)
    (hd : ∀ H', Same H1 H' → H' D = some (.dK (dKv (dd b))) → Qd H') :
    ∃ W : Nat → Nat → Hp → Prop, (∃ m, W 0 m (upd H1 D (.dK []))) ∧ ∀ i m H, W i m H →
      ((Itt K a).stop i H ∧ Qd H) ∨ ((Itt K a).go i H ∧ ∃ Nx : Hp → Prop, (∀ H', Nx H' → ∃ m', m' < m ∧ W (i + 1) m' H') ∧ ∀ x H', (Itt K a).yld i H x H' → gName i0 x (wipe σ [i0]) H' fun σ2 H2 => wipe σ2 [i0] = wipe σ [i0] ∧ tYes σ2 H2 fun b H3 =>
        if b = true then tVar i0 σ2 H3 fun y H4 => tC (.bl true) σ2 H4 fun z H5 => ∃ kvs k, y = kV k ∧ H5 D = some (.dK kvs) ∧ kvs.length < sizeLine ∧ Nx (upd H5 D (.dK (putK kvs k z))) else Nx H3) := by
  refine dc_tup (xs := b.map vN) (fun i H => Same H1 H ∧ H D = some (.dK (dKv (dd (b.take i))))) ⟨Same.new hD, upd_same⟩ (fun i H _ h => sqT (h.1 _ _ ha)) ?_ ?_
  · rintro i x H hx ⟨s, e⟩
    rw [List.getElem?_map] at hx
    obtain ⟨n, hn, rfl⟩ := Option.map_eq_some_iff.mp hx
    have hw : i0 < (wipe σ [i0]).length := by rw [wipe_length]; exact hi
    have e1 : ((wipe σ [i0]).set i0 (some (vN n)))[i0]? = some (some (vN n)) := List.getElem?_set_self hw
    refine ⟨?_, ?_⟩
    · show ((σ.set i0 none).set i0 (some (vN n))).set i0 none = σ.set i0 none
      rw [List.set_set, List.set_set]
    · refine ⟨vN n, e1, dKv (dd (b.take i)), Sum.inl (n : Int), rfl, e, ?_, ?_, ?_⟩
      · unfold dKv
        rw [List.length_map]
        have h1 := len_dd (b.take i)
        rw [List.length_take] at h1
        exact sz1000 (by omega)
      · intro c o ec
        rw [upd_ne (ne_of_none ec hD)]
        exact s _ _ ec
      · rw [putK_dKv, ← dd_snoc, upd_same]
        have e3 : b.take (i + 1) = b.take i ++ [n] := by rw [List.take_add_one, hn]; rfl
        rw [e3]
  · rintro H ⟨s, e⟩
    rw [List.length_map, List.take_length] at e
    exact hd H s e
section
variable {P : Program} {w : World} {K : PySem.W.Frag} {mg : Str → Option Value} {base : Heap}
def sp_size_of : Sp := fun vs H Q _ => ∃ (v : V) (F : Fam) (n : Nat), vs = [v] ∧ Tq H v (encF F) ∧ Tree n F ∧ n ≤ 60 ∧ ∀ H', Same H H' → Q (vN n) H'
theorem sc_size_of : FnScope ["bags", "bag"] ["bags"] (defScope s_size_of) := ⟨rfl, rfl, rfl, by decide +kernel, rfl, by decide +kernel, by decide +kernel⟩
theorem ok_size_of (T : Bt mg) (D : DefAt K mg "size_of" s_size_of ["bags"]) : Cal P w K mg base 1 "size_of" sp_size_of [] := by
  refine cal_ok D sc_size_of (fun vs H Q E h => ?_) (fun f cdv A outer s H vs Q E hr h => ?_)
  · obtain ⟨v, F, n, rfl, _⟩ := h
    rfl
  · obtain ⟨v, F, n, rfl, hv, ht, hn60, q⟩ := h
    obtain ⟨a, xs, rfl, ha, hx⟩ := hv.fam
    have hxl : xs.length = F.length := by rw [hx.len, List.length_map]
    have hfew := ht.few
    refine ⟨_, pss_one (ps_ret (pe_op op_add pe_int (x_max T rfl (pe_lc (own := [("bag", 1)]) (g := gName 1) (tt := tYes) (te := tOp (rIxT K) (tVar 1) (tUn (rU fun i => .int (-i)) (tC (.int 1)))) (by rfl) sc_size_of.nd (pi_tup (pv 0))
        (blkOk_by (N := ["bags", "bag"]) (sc := defScope s_size_of) (by decide +kernel)) (fun _ _ _ _ _ => pgn (i := 1) sc_size_of.nd rfl rfl) (fun _ _ _ _ _ => pts_nil)
        (fun _ _ _ _ _ => x_ixT (pv 1) (pe_un un_neg pe_int) (fun _ _ => rfl)))))), ?_⟩
    refine ⟨_, rfl, a, rfl, ⟨_, sqT ha⟩, fun D0 hD => ?_⟩
    refine lc_map (walk_tup (xs := xs)) (fun i y _ => ∃ b, F[i]? = some b ∧ y = vN (lastN b)) hD (sz1000 (by omega)) (fun _ _ _ _ _ h => h) (fun H' s => sqT (s _ _ ha)) ?_ ?_
    · rintro i x H1 H2 hi s1 ⟨rfl, e1⟩ K0 hK
      obtain ⟨b, hb1, hb2⟩ := hx.at e1
      obtain ⟨c, rfl, hc⟩ := (hb2.mono s1.tt).bag
      have hne := ht.ne (List.mem_of_getElem? hb1)
      obtain ⟨r, er⟩ := last_split hne
      refine ⟨rfl, _, rfl, 1, rfl, c, b.map vN, -1, vN (lastN b), rfl, rfl, sqT hc, ?_, hK _ _ (Same.refl _) ⟨b, hb1, rfl⟩⟩
      have e2 : b.map vN = r.map vN ++ [vN (lastN b)] := by
        conv => lhs; rw [er]
        rw [List.map_append, List.map_cons, List.map_nil]
      rw [e2]
      exact atI_last _ _
    · intro H' ys s1 e pr
      obtain ⟨hl, hR⟩ := paired_range pr
      have key : ys = (F.map fun b => ((lastN b : Nat) : Int)).map V.int := by
        refine List.ext_getElem? fun i => ?_
        rw [List.getElem?_map, List.getElem?_map]
        cases hy : ys[i]? with
        | none =>
          have h1 := List.getElem?_eq_none_iff.mp hy
          rw [List.getElem?_eq_none (by omega)]
          rfl
        | some y =>
          obtain ⟨b, hb, rfl⟩ := hR i y hy
          rw [hb]
          rfl
      refine ⟨D0, F.map fun b => ((lastN b : Nat) : Int), rfl, sqL (by rw [e, key]), ?_, fun m hm hmax => ?_⟩
      · rw [List.length_map]
        exact List.length_pos_iff.mpr ht.ne_nil
      · obtain ⟨b, hb, rfl⟩ := List.mem_map.mp hm
        have h1 := ht.lt b hb _ (last_mem (ht.ne hb))
        obtain ⟨c, hc, hc2⟩ := ht.homes (x := n - 1) (by omega)
        have h2 := last_top (ht.up c hc) hc2
        have h3 := hmax _ (List.mem_map.mpr ⟨c, hc, rfl⟩)
        refine ⟨1, _, rfl, rfl, ?_⟩
        have e3 : (1 : Int) + ((lastN b : Nat) : Int) = (n : Int) := by omega
        show Q (.int (1 + ((lastN b : Nat) : Int))) H'
        rw [e3]
        exact q _ s1

/-- shared_by -/
def sp_shared_by : Sp := fun vs H Q _ => ∃ (v u : V) (b c : Bag), vs = [v, u] ∧ Tq H v (encB b) ∧ Tq H u (encB c) ∧ b.length ≤ 1000 ∧ c.length ≤ 1000 ∧ ∀ p H', Same H H' → H p = none → H' p = some (.lst ((b.filter fun x => decide (x ∈ c)).map vN)) → Q (.ref p) H'
theorem sc_shared_by : FnScope ["one", "other", "told", "bead"] ["one", "other"] (defScope s_shared_by) := ⟨rfl, rfl, rfl, by decide +kernel, rfl, by decide +kernel, by decide +kernel⟩
theorem ok_shared_by (D : DefAt K mg "shared_by" s_shared_by ["one", "other"]) : Cal P w K mg base 1 "shared_by" sp_shared_by [] := by
  refine cal_ok D sc_shared_by (fun vs H Q E h => ?_) (fun f cdv A outer s H vs Q E hr h => ?_)
  · obtain ⟨v, u, b, c, rfl, _⟩ := h
    rfl
  · obtain ⟨v, u, b, c, rfl, hv, hu, hbl, hcl, q⟩ := h
    obtain ⟨a1, rfl, ha1⟩ := hv.bag
    obtain ⟨a2, rfl, ha2⟩ := hu.bag
    refine ⟨_, pss_cons (ps_set (i := 2) sc_shared_by.nd rfl (Or.inr rfl) (pe_dc (own := [("bead", 3)]) (g := gName 3) (tt := tYes) (by rfl) sc_shared_by.nd (pi_tup (pv 1))
        (blkOk_by (N := ["one", "other", "told", "bead"]) (sc := defScope s_shared_by) (by decide +kernel)) (fun _ _ _ _ _ => pgn (i := 3) sc_shared_by.nd rfl rfl) (fun _ _ _ _ _ => pts_nil)
        (fun _ _ _ _ _ => pv 3) (fun _ _ _ _ _ => pe_bl)))
      (pss_one (ps_ret (pe_lc (own := [("bead", 3)]) (g := gName 3) (tt := tB (tDIn (tVar 3) (tVar 2))) (te := tVar 3) (by rfl) sc_shared_by.nd (pi_tup (pv 0))
        (blkOk_by (N := ["one", "other", "told", "bead"]) (sc := defScope s_shared_by) (by decide +kernel)) (fun _ _ _ _ _ => pgn (i := 3) sc_shared_by.nd rfl rfl)
        (fun _ _ _ _ _ => pts_one (pt_cmp (pc_din (hu_of hr) (pv 3) (pv 2)))) (fun _ _ _ _ _ => pv 3)))), ?_⟩
    refine ⟨_, rfl, a2, rfl, ⟨_, sqT ha2⟩, fun D1 hD1 => ?_⟩
    refine dc_true hD1 ha2 hcl (by show 3 < 4; decide) fun H1 s1 e1 => ?_
    refine ⟨_, rfl, a1, rfl, ⟨_, sqT (s1 _ _ ha1)⟩, fun D0 hD => ?_⟩
    refine lc_gen (walk_tup (xs := b.map vN)) (fun i => (b[i]?).any fun x => decide (x ∈ c)) (fun i y _ => ∃ x, b[i]? = some x ∧ y = vN x) hD (sz1000 (by rw [List.length_map]; omega)) (fun _ _ _ _ _ h => h) (fun H' s => sqT ((s1.trans s) _ _ ha1)) ?_ ?_
    · rintro i x H2 H3 hi s2 ⟨rfl, e2⟩ K0 Kf k1 k2
      rw [List.getElem?_map] at e2
      obtain ⟨n, hn, rfl⟩ := Option.map_eq_some_iff.mp e2
      refine ⟨rfl, vN n, rfl, _, rfl, D1, _, rfl, DGet.k (k := Sum.inl (n : Int)) (s2 _ _ e1), _, rfl, ?_⟩
      rw [valV_dKv, decide_eq_decide.mpr (mem_dd c n)]
      rw [hn] at k1 k2
      by_cases hc : n ∈ c
      · rw [decide_eq_true hc]
        exact iteT ⟨vN n, rfl, k1 (decide_eq_true hc) _ _ (Same.refl _) ⟨n, rfl, rfl⟩⟩
      · rw [decide_eq_false hc]
        exact iteF (k2 (decide_eq_false hc) _ (Same.refl _))
    · intro H' ys s2 e pr
      rw [List.length_map] at pr
      have h1 := paired_vN (paired_filter pr)
      rw [h1] at e
      exact q D0 H' (s1.trans s2) (s1.free hD) e
end
end L2.SB
/-! The walk: homes_of. -/
namespace L2.SB
open PySem PySem.Spec PyProof.Rows Sb
open PySem.W (alike dataLt)
open C8 (Cal pe_c pe_gc)

abbrev s_homes_of : Stmt := top 16
/-- the indexes of the bags that hold a bead -/
def hom (F : Fam) (x : Nat) : List Nat := (List.range F.length).filter fun i => decide (x ∈ F.getD i [])
def homP (F : Fam) (i j x : Nat) : List Nat := ((List.range i).filter fun i => decide (x ∈ F.getD i [])) ++ (if x ∈ (F.getD i []).take j then [i] else [])
theorem homP_next (F : Fam) (i x : Nat) : homP F i (F.getD i []).length x = homP F (i + 1) 0 x := by
  unfold homP
  rw [List.take_length, filter_range_succ]
  simp
theorem homP_end (F : Fam) (x : Nat) : homP F F.length 0 x = hom F x := by
  unfold homP hom
  simp
theorem homP_step {F : Fam} {i j y : Nat} (hn : (F.getD i []).Nodup) (hy : (F.getD i [])[j]? = some y) (x : Nat) : homP F i (j + 1) x = if x = y then homP F i j x ++ [i] else homP F i j x := by
  unfold homP
  have e : (F.getD i []).take (j + 1) = (F.getD i []).take j ++ [y] := by rw [List.take_add_one, hy]; rfl
  rw [e]
  by_cases h : x = y
  · subst h
    have hno : x ∉ (F.getD i []).take j := fun m => by
      obtain ⟨k, hk⟩ := List.mem_iff_getElem?.mp m
      rw [List.getElem?_take] at hk
      split at hk
      · rename_i hkj
        have hkl := (List.getElem?_eq_some_iff.mp hk).1
        have := (List.getElem?_inj hkl hn).mp (hk.trans hy.symm)
        omega
      · cases hk
    rw [if_pos rfl, if_neg hno, if_pos (by simp)]
    simp
  · rw [if_neg h]
    have : (x ∈ (F.getD i []).take j ++ [y]) ↔ x ∈ (F.getD i []).take j := by simp [h]
    by_cases hm : x ∈ (F.getD i []).take j
    · rw [if_pos (this.mpr hm), if_pos hm]
    · rw [if_neg (fun z => hm (this.mp z)), if_neg hm]
/-- a list of lists of ints, all of them ours -/
structure LLAt (H0 H : Hp) (p : Addr) (as : List Addr) (f : Nat → List Nat) : Prop where
  same : Same H0 H
  top : H p = some (.lst (as.map V.ref))
  nd : as.Nodup
  new : ∀ a, a ∈ as → H0 a = none ∧ a ≠ p
  newp : H0 p = none
  el : ∀ x a, as[x]? = some a → H a = some (.lst ((f x).map vN))
theorem LLAt.put {H0 H : Hp} {p : Addr} {as : List Addr} {f g : Nat → List Nat} (h : LLAt H0 H p as f) {y : Nat} {a : Addr} (ha : as[y]? = some a) {l : List Nat} (hg : ∀ x, g x = if x = y then l else f x) : LLAt H0 (upd H a (.lst (l.map vN))) p as g := by
  have hm := List.mem_of_getElem? ha
  obtain ⟨n1, n2⟩ := h.new a hm
  refine ⟨fun b o e => ?_, ?_, h.nd, h.new, h.newp, fun x b hb => ?_⟩
  · rw [upd_ne (ne_of_none e n1)]; exact h.same b o e
  · rw [upd_ne (fun z => n2 z.symm)]; exact h.top
  · rw [hg]
    by_cases e : x = y
    · subst e
      rw [ha] at hb
      cases hb
      rw [if_pos rfl, upd_same]
    · rw [if_neg e, upd_ne (fun z => e ?_)]
      · exact h.el x b hb
      · subst z
        exact (List.getElem?_inj (List.getElem?_eq_some_iff.mp hb).1 h.nd).mp (hb.trans ha.symm)
theorem LLAt.keep {H0 H H' : Hp} {p : Addr} {as : List Addr} {f : Nat → List Nat} (h : LLAt H0 H p as f) (s : Same H H') : LLAt H0 H' p as f :=
  ⟨h.same.trans s, s _ _ h.top, h.nd, h.new, h.newp, fun x a e => s _ _ (h.el x a e)⟩
theorem LLAt.congr {H0 H : Hp} {p : Addr} {as : List Addr} {f g : Nat → List Nat} (h : LLAt H0 H p as f) (e : ∀ x, f x = g x) : LLAt H0 H p as g :=
  ⟨h.same, h.top, h.nd, h.new, h.newp, fun x a q => by rw [← e]; exact h.el x a q⟩
section
variable {P : Program} {w : World} {K : PySem.W.Frag} {mg : Str → Option Value} {base : Heap}
def sp_homes_of : Sp := fun vs H Q _ => ∃ (v : V) (F : Fam) (n : Nat), vs = [v] ∧ Tq H v (encF F) ∧ Tree n F ∧ n ≤ 60 ∧ ∀ p as H', LLAt H H' p as (hom F) → as.length = n → Q (.ref p) H'
theorem sc_homes_of : FnScope ["bags", "found", "index", "bag", "bead"] ["bags"] (defScope s_homes_of) := ⟨rfl, rfl, rfl, by decide +kernel, rfl, by decide +kernel, by decide +kernel⟩
theorem ok_homes_of (T : Bt mg) (C : Cal P w K mg base 1 "size_of" sp_size_of []) (D : DefAt K mg "homes_of" s_homes_of ["bags"]) : Cal P w K mg base 2 "homes_of" sp_homes_of [] := by
  refine cal_ok D sc_homes_of (fun vs H Q E h => ?_) (fun f cdv A outer s H vs Q E hr h => ?_)
  · obtain ⟨v, F, n, rfl, _⟩ := h
    rfl
  · obtain ⟨v, F, n, rfl, hv, ht, hn60, q⟩ := h
    have hv0 := hv
    obtain ⟨a, xs, rfl, ha, hx⟩ := hv.fam
    have hxl : xs.length = F.length := by rw [hx.len, List.length_map]
    refine ⟨_, pss_cons (ps_setLc (i := 1) (own := [("bead", 4)]) (g := gName 4) (tt := tYes) (te := tLst tNil) (by rfl) sc_homes_of.nd rfl rfl (sw_true rfl rfl rfl (by decide +kernel)) (pi_range1 (by rfl) T.range (pa1 (pe_c C hr (by decide) (by rfl) (pa1 (pv 0)))))
        (blkOk_by (N := ["bags", "found", "index", "bag", "bead"]) (sc := defScope s_homes_of) (by decide +kernel)) (fun _ _ _ _ _ => pgn (i := 4) sc_homes_of.nd rfl rfl) (fun _ _ _ _ _ => pts_nil) (fun _ _ _ _ _ => pe_lst pa_nil))
      (pss_cons (ps_for PassesOwn.never rfl (pi_enumT (by rfl) T.enumerate (pa1 (pv 0))) (pg_tup (n := 2) rfl (pgs_cons (pg_name (i := 2) sc_homes_of.nd rfl (Or.inl rfl)) (pgs_cons (pg_name (i := 3) sc_homes_of.nd rfl (Or.inl rfl)) pgs_nil)))
        (pss_one (ps_for PassesOwn.never rfl (pi_tup (pv 3)) (pg_name (i := 4) sc_homes_of.nd rfl (Or.inl rfl))
          (pss_one (ps_expr (x_append (x_ixL (pv 1) (pv 4) (fun _ _ => rfl)) (pv 2)))))))
      (pss_one (ps_ret (pv 1)))), ?_⟩
    -- found = [[] for bead in range(size_of(bags))]
    refine ⟨_, rfl, _, F, n, rfl, hv0, ht, hn60, fun H1 s1 => ?_⟩
    refine ⟨(n : Int), rfl, by omega, by omega, fun p hp => ?_⟩
    refine lc_it (walk_range (lo := 0) (n := n)) (fun i H2 => Same H1 H2 ∧ ∃ as : List Addr, H2 p = some (.lst (as.map V.ref)) ∧ as.length = i ∧ as.Nodup ∧ ∀ b, b ∈ as → H2 b = some (.lst []) ∧ H1 b = none ∧ b ≠ p)
      ⟨Same.new hp, [], upd_same, rfl, List.nodup_nil, fun _ h => nomatch h⟩ (fun _ _ _ _ => True.intro) ?_ ?_
    · rintro i x H2 H3 hi ⟨s2, as, e, hl, nd, hall⟩ ⟨rfl, rfl⟩
      refine ⟨rfl, ?_⟩
      refine ⟨(by show 0 ≤ sizeLine; decide), fun b hb => ?_⟩
      have npb : p ≠ b := ne_of_none e hb
      refine ⟨as.map V.ref, by rw [upd_ne npb]; exact e, sz1000 (by rw [List.length_map]; omega), ?_, as ++ [b], ?_, ?_, ?_, fun c hc => ?_⟩
      · intro c o ec
        have h1 := s2 _ _ ec
        rw [upd_ne (ne_of_none ec hp), upd_ne (ne_of_none h1 hb)]
        exact h1
      · rw [upd_same, List.map_append]
        rfl
      · rw [List.length_append, hl]
        rfl
      · refine nd_snoc nd fun m => ?_
        rw [(hall b m).1] at hb
        cases hb
      · rcases List.mem_append.mp hc with hc | hc
        · obtain ⟨h1, h2, h3⟩ := hall c hc
          refine ⟨?_, h2, h3⟩
          rw [upd_ne h3, upd_ne (ne_of_none h1 hb)]
          exact h1
        · rw [List.mem_singleton.mp hc]
          refine ⟨?_, ?_, npb.symm⟩
          · rw [upd_ne npb.symm, upd_same]
          · exact s2.free hb
    · rintro H2 ⟨s2, as, e, hl, nd, hall⟩
      have L0 : LLAt H H2 p as (homP F 0 0) := by
        refine ⟨s1.trans s2, e, nd, fun b hb => ⟨s1.free (hall b hb).2.1, (hall b hb).2.2⟩, s1.free hp, fun x b hb => ?_⟩
        have e0 : homP F 0 0 x = [] := by unfold homP; simp
        rw [e0]
        exact (hall b (List.mem_of_getElem? hb)).1
      -- for index, bag in enumerate(bags)
      refine ⟨_, rfl, a, xs, rfl, sqT (L0.same _ _ ha), for_it walk_enumT (fun i σ H3 => ∃ y1 y2 y3, σ = [some (.ref a), some (.ref p), y1, y2, y3] ∧ LLAt H H3 p as (homP F i 0)) ⟨_, _, _, rfl, L0⟩ (fun i σ H3 _ h => by
        obtain ⟨_, _, _, _, L⟩ := h
        exact sqT (L.same _ _ ha)) ?_ ?_⟩
      · rintro i x σ H3 H4 hi ⟨y1, y2, y3, rfl, L⟩ ⟨T0, z1, z2, rfl, hT, rfl, ez1, ez2⟩
        have ez1 : V.int (i : Nat) = z1 := by injection ez1
        subst ez1
        obtain ⟨b, hb1, hb2⟩ := hx.at ez2
        have L1 := L.keep (Same.new (o := .tup [V.int (i : Nat), z2]) hT)
        obtain ⟨c, rfl, hc⟩ := (hb2.mono L1.same.tt).bag
        have hbm := List.mem_of_getElem? hb1
        have hgd : F.getD i [] = b := by rw [List.getD_eq_getElem?_getD, hb1]; rfl
        refine ⟨T0, [V.int (i : Nat), .ref c], rfl, sqT upd_same, rfl, _, _, rfl, _, _, rfl, rfl, ?_⟩
        -- for bead in bag
        refine ⟨_, rfl, c, rfl, ⟨_, sqT hc⟩, for_it (walk_tup (xs := b.map vN)) (fun j σ H5 => ∃ y4, σ = [some (.ref a), some (.ref p), some (V.int (i : Nat)), some (.ref c), y4] ∧ LLAt H H5 p as (homP F i j) ∧ H5 c = some (.tup (b.map vN))) ⟨_, rfl, L1, hc⟩ (fun j σ H5 _ h => by
          obtain ⟨_, _, _, h⟩ := h
          exact sqT h) ?_ ?_⟩
        · rintro j x σ H5 H6 hj ⟨y4, rfl, L2, hc2⟩ ⟨rfl, ex⟩
          rw [List.getElem?_map] at ex
          obtain ⟨m, hm, rfl⟩ := Option.map_eq_some_iff.mp ex
          have hmn : m < n := ht.lt b hbm m (List.mem_of_getElem? hm)
          obtain ⟨d, hd⟩ : ∃ d, as[m]? = some d := ⟨as[m], List.getElem?_eq_getElem (by omega)⟩
          have hdl := L2.el m d hd
          refine ⟨_, rfl, _, rfl, p, as.map V.ref, (m : Int), .ref d, rfl, rfl, sqL L2.top, ?_, tyL hdl, _, rfl, d, _, _, rfl, rfl, hdl, ?_, ?_⟩
          · refine at_of (j := m) rfl ?_
            rw [List.getElem?_map, hd]
            rfl
          · refine sz1000 ?_
            rw [List.length_map]
            have h1 := filter_range_len (fun i => decide (m ∈ F.getD i [])) i
            have h2 := ht.few
            have h3 : (homP F i j m).length ≤ i + 1 := by
              unfold homP
              rw [List.length_append]
              split
              · rw [List.length_singleton]; omega
              · rw [List.length_nil]; omega
            have h4 : i < F.length := (List.getElem?_eq_some_iff.mp hb1).1
            omega
          · have e5 : (homP F i j m).map vN ++ [V.int (i : Nat)] = (homP F i j m ++ [i]).map vN := by rw [List.map_append]; rfl
            rw [e5]
            refine ⟨_, rfl, L2.put hd fun x => ?_, ?_⟩
            · rw [homP_step (F := F) (i := i) (j := j) (y := m) (by rw [hgd]; exact up_nodup (ht.up b hbm)) (by rw [hgd]; exact hm)]
              split
              · rename_i h; rw [h]
              · rfl
            · rw [upd_ne (ne_of hc2 hdl (fun z => nomatch z))]
              exact hc2
        · rintro σ H5 ⟨y4, rfl, L2, hc2⟩
          refine ⟨_, _, _, rfl, L2.congr fun x => ?_⟩
          rw [← homP_next, hgd, List.length_map]
      · rintro σ H3 ⟨y1, y2, y3, rfl, L⟩
        refine ⟨_, rfl, q p as H3 (L.congr fun x => ?_) hl⟩
        rw [hxl, homP_end]
end
end L2.SB
/-! The walk: reached_from. -/
namespace L2.SB
open PySem PySem.Spec PyProof.Rows Sb
open PySem.W (alike dataLt)
open C8 (Cal pe_c pe_gc)

abbrev s_reached_from : Stmt := top 17
theorem mem_hom {F : Fam} {x i : Nat} : i ∈ hom F x ↔ i < F.length ∧ x ∈ F.getD i [] := by
  unfold hom
  rw [List.mem_filter, List.mem_range, decide_eq_true_eq]
theorem hom_len (F : Fam) (x : Nat) : (hom F x).length ≤ F.length := filter_range_len _ _
/-- what is closed under sharing beads and holds 0 is all -/
theorem reach_all {n : Nat} {F : Fam} (ht : Tree n F) {l : List Nat} (nd : l.Nodup) (hl : ∀ i, i ∈ l → i < F.length) (h0 : 0 ∈ l)
    (hc : ∀ i, i ∈ l → ∀ x, x ∈ F.getD i [] → ∀ k, k ∈ hom F x → k ∈ l) : l.length = F.length := by
  have gd : ∀ {b : Bag} {k : Nat}, F[k]? = some b → F.getD k [] = b := fun h => by rw [List.getD_eq_getElem?_getD, h]; rfl
  have gm : ∀ {k : Nat}, k < F.length → F.getD k [] ∈ F := fun h => by
    rw [List.getD_eq_getElem?_getD, List.getElem?_eq_getElem h]
    exact List.getElem_mem h
  have hcol := ht.conn (fun x => if ∃ i, i ∈ l ∧ x ∈ F.getD i [] then 1 else 0) (fun b hb x hx y hy => by
    obtain ⟨k, hk⟩ := List.mem_iff_getElem?.mp hb
    have hkl := (List.getElem?_eq_some_iff.mp hk).1
    have iff : ∀ z, z ∈ b → ((∃ i, i ∈ l ∧ z ∈ F.getD i []) ↔ k ∈ l) := fun z hz =>
      ⟨fun ⟨i, hi, hzi⟩ => hc i hi z hzi k (mem_hom.mpr ⟨hkl, by rw [gd hk]; exact hz⟩), fun h => ⟨k, h, by rw [gd hk]; exact hz⟩⟩
    show (if ∃ i, i ∈ l ∧ x ∈ F.getD i [] then 1 else 0) = (if ∃ i, i ∈ l ∧ y ∈ F.getD i [] then 1 else 0)
    by_cases h : k ∈ l
    · rw [if_pos ((iff x hx).mpr h), if_pos ((iff y hy).mpr h)]
    · rw [if_neg fun z => h ((iff x hx).mp z), if_neg fun z => h ((iff y hy).mp z)])
  have hF0 := hl 0 h0
  have hb0 := gm hF0
  obtain ⟨x0, hx0⟩ := List.exists_mem_of_ne_nil _ (ht.ne hb0)
  have hall : ∀ k, k < F.length → k ∈ l := fun k hk => by
    obtain ⟨y, hy⟩ := List.exists_mem_of_ne_nil _ (ht.ne (gm hk))
    have e : (if ∃ i, i ∈ l ∧ x0 ∈ F.getD i [] then 1 else 0) = (if ∃ i, i ∈ l ∧ y ∈ F.getD i [] then 1 else 0) := hcol x0 (ht.lt _ hb0 _ hx0) y (ht.lt _ (gm hk) _ hy)
    rw [if_pos ⟨0, h0, hx0⟩] at e
    by_cases h : ∃ i, i ∈ l ∧ y ∈ F.getD i []
    · obtain ⟨i, hi, hyi⟩ := h
      exact hc i hi y hyi k (mem_hom.mpr ⟨hk, hy⟩)
    · rw [if_neg h] at e
      cases e
  have p : l.Perm (List.range F.length) := (List.perm_ext_iff_of_nodup nd List.nodup_range).mpr fun i => ⟨fun h => List.mem_range.mpr (hl i h), fun h => hall i (List.mem_range.mp h)⟩
  have := p.length_eq
  rwa [List.length_range] at this

structure HomesAt (H : Hp) (p : Addr) (as : List Addr) (F : Fam) (n : Nat) : Prop where
  top : H p = some (.lst (as.map V.ref))
  len : as.length = n
  el : ∀ x a, as[x]? = some a → H a = some (.lst ((hom F x).map vN))
theorem HomesAt.keep {H H' : Hp} {p : Addr} {as : List Addr} {F : Fam} {n : Nat} (h : HomesAt H p as F n) (s : Same H H') : HomesAt H' p as F n :=
  ⟨s _ _ h.top, h.len, fun x a e => s _ _ (h.el x a e)⟩
/-- what was found, the rim -/
structure RSt (F : Fam) (l r : List Nat) : Prop where
  nd : l.Nodup
  lt : ∀ i, i ∈ l → i < F.length
  zero : 0 ∈ l
  rim : ∀ i, i ∈ r → i ∈ l
  rnd : r.Nodup
theorem RSt.size {F : Fam} {l r : List Nat} (h : RSt F l r) : l.length ≤ F.length := by
  have := h.nd.length_le_of_subset (l₂ := List.range F.length) fun i hi => List.mem_range.mpr (h.lt i hi)
  rwa [List.length_range] at this
theorem RSt.rsize {F : Fam} {l r : List Nat} (h : RSt F l r) : r.length ≤ F.length :=
  Nat.le_trans (h.rnd.length_le_of_subset h.rim) h.size
theorem RSt.add {F : Fam} {l r : List Nat} (h : RSt F l r) {k : Nat} (hk : k < F.length) (hn : k ∉ l) : RSt F (l ++ [k]) (r ++ [k]) where
  nd := nd_snoc h.nd hn
  lt i hi := by
    rcases List.mem_append.mp hi with hi | hi
    · exact h.lt i hi
    · rw [List.mem_singleton.mp hi]; exact hk
  zero := List.mem_append_left _ h.zero
  rim i hi := by
    rcases List.mem_append.mp hi with hi | hi
    · exact List.mem_append_left _ (h.rim i hi)
    · exact List.mem_append_right _ hi
  rnd := nd_snoc h.rnd fun m => hn (h.rim _ m)
def Clo (F : Fam) (l : List Nat) (i : Nat) : Prop := ∀ x, x ∈ F.getD i [] → ∀ k, k ∈ hom F x → k ∈ l
section
variable {P : Program} {w : World} {K : PySem.W.Frag} {mg : Str → Option Value} {base : Heap}
def sp_reached_from : Sp := fun vs H Q _ => ∃ (v : V) (F : Fam) (n : Nat) (p : Addr) (as : List Addr), vs = [v, .ref p, .int 0] ∧ Tq H v (encF F) ∧ Tree n F ∧ n ≤ 60 ∧ HomesAt H p as F n ∧
  ∀ d kvs H', Same H H' → H' d = some (.dK kvs) → kvs.length = F.length → Q (.ref d) H'
theorem sc_reached_from : FnScope ["bags", "homes", "first", "found", "rim", "bead", "index"] ["bags", "homes", "first"] (defScope s_reached_from) := ⟨rfl, rfl, rfl, by decide +kernel, rfl, by decide +kernel, by decide +kernel⟩
theorem ok_reached_from (D : DefAt K mg "reached_from" s_reached_from ["bags", "homes", "first"]) : Cal P w K mg base 1 "reached_from" sp_reached_from [] := by
  refine cal_ok D sc_reached_from (fun vs H Q E h => ?_) (fun f cdv A outer s H vs Q E hr h => ?_)
  · obtain ⟨v, F, n, p, as, rfl, _⟩ := h
    rfl
  · obtain ⟨v, F, n, p, as, rfl, hv, ht, hn60, hH, q⟩ := h
    obtain ⟨a, xs, rfl, ha, hx⟩ := hv.fam
    have hxl : xs.length = F.length := by rw [hx.len, List.length_map]
    have hfew := ht.few
    have nd := sc_reached_from.nd
    refine ⟨_, pss_cons (ps_par (i := 3) (j := 4) (by rfl) nd rfl rfl (by decide) rfl rfl (pa2 (pe_disp (pps_cons (pv 2) pe_bl pps_nil) rfl rfl (fun z => by cases z) (by decide)) (pe_lst (pa1 (pv 2)))) (by rfl))
      (pss_cons (ps_while PassesOwn.never (pt_cmpR (op_ne0 (hu64 hr)) (pv 4) (pe_lst pa_nil) (nomark _))
        (pss_one (ps_for PassesOwn.never rfl (pi_tup (x_ixT (pv 0) (pe_bm0 PySem.F.plainAttrs_list PySem.F.slot_list_pop PySem.F.type_list_pop mt_pop (pv 4)) (fun _ _ => rfl))) (pg_name (i := 5) nd rfl (Or.inl rfl))
          (pss_one (ps_for PassesOwn.never rfl (pi_list (x_ixL (pv 1) (pv 5) (fun _ _ => rfl))) (pg_name (i := 6) nd rfl (Or.inl rfl))
            (pss_one (ps_if (pt_cmp (pc_dnotin (hu_of hr) (pv 6) (pv 3)))
              (pss_cons (ps_dput (hu_of hr) (pv 3) (pv 6) pe_bl rfl) (pss_one (ps_expr (x_append (pv 4) (pv 6))))) pss_nil)))))))
      (pss_one (ps_ret (pv 3)))), ?_⟩
    -- found, rim = {first: True}, [first]
    intro d hd
    refine ⟨_, rfl, upd_same, [(Sum.inl 0, .bl true)], rfl, by decide, ?_⟩
    refine ⟨_, rfl, (by show 1 ≤ sizeLine; decide), fun rm hrm => ?_⟩
    refine ⟨_, _, rfl, ?_⟩
    have e0 : upd (upd H d (.dK [])) d (.dK (mergeK [] [(Sum.inl 0, V.bl true)])) = upd H d (.dK (dKv [0])) := by
      rw [upd_upd]
      rfl
    rw [e0] at hrm ⊢
    have ndr : d ≠ rm := ne_of_none upd_same hrm
    have hrm0 : H rm = none := by rw [upd_ne ndr.symm] at hrm; exact hrm
    -- while rim != []
    refine ⟨fun m σ H1 => ∃ y5 y6 l r, σ = [some (.ref a), some (.ref p), some (.int 0), some (.ref d), some (.ref rm), y5, y6] ∧ Same H H1 ∧ H1 d = some (.dK (dKv l)) ∧ H1 rm = some (.lst (r.map vN)) ∧ RSt F l r ∧
        (∀ i, i ∈ l → i ∉ r → Clo F l i) ∧ m = 2 * (F.length - l.length) + r.length,
      ⟨_, none, none, [0], [0], rfl, fun c o ec => by rw [upd_ne (ne_of_none ec hrm0), upd_ne (ne_of_none ec hd)]; exact ec, by rw [upd_ne ndr, upd_same], upd_same,
        ⟨by simp, fun i hi => by rw [List.mem_singleton.mp hi]; exact List.length_pos_iff.mpr ht.ne_nil, List.mem_singleton.mpr rfl, (fun _ h => h), by simp⟩, fun i h1 h2 => absurd h1 h2, rfl⟩, ?_⟩
    rintro m σ H1 ⟨y5, y6, l, r, rfl, s1, hd1, hr1, R, hclo, rfl⟩
    have hxi : ∀ i, i < F.length → ∃ c, xs[i]? = some (.ref c) ∧ H c = some (.tup ((F.getD i []).map vN)) := fun i hi => by
      have hi' : i < xs.length := by omega
      obtain ⟨b, hb1, hb2⟩ := hx.at (List.getElem?_eq_getElem hi')
      obtain ⟨c, ec, hc⟩ := hb2.bag
      have e : F.getD i [] = b := by rw [List.getD_eq_getElem?_getD, hb1]; rfl
      exact ⟨c, by rw [List.getElem?_eq_getElem hi', ec], by rw [e]; exact hc⟩
    refine ⟨_, rfl, (by show 0 ≤ sizeLine; decide), fun z hz => ?_⟩
    have sz : Same H1 (upd H1 z (.lst [])) := Same.new hz
    refine ⟨rm, z, r.map fun (n : Nat) => (n : Int), rfl, rfl, sqL ?_, sqL upd_same, _, rfl, ?_⟩
    · rw [sz _ _ hr1, List.map_map]
      rfl
    have hzr : z ≠ rm := (ne_of_none hr1 hz).symm
    cases hrr : r.reverse with
    | nil =>
      have hr0 : r = [] := List.reverse_eq_nil_iff.mp hrr
      subst hr0
      refine iteF ⟨_, rfl, ?_⟩
      refine q d (dKv l) _ (s1.trans sz) (sz _ _ hd1) ?_
      unfold dKv
      rw [List.length_map]
      exact reach_all ht R.nd R.lt R.zero fun i hi => hclo i hi (fun h => nomatch h)
    | cons i rr =>
      have er : r = rr.reverse ++ [i] := by rw [← List.reverse_reverse r, hrr, List.reverse_cons]
      generalize rr.reverse = r0 at er
      subst er
      have hne : (!((r0 ++ [i]).map fun (n : Nat) => (n : Int)).isEmpty) = true := by simp
      have hil : i ∈ l := R.rim i (by simp)
      have hiF := R.lt i hil
      show (if (!((r0 ++ [i]).map fun (n : Nat) => (n : Int)).isEmpty) = true then _ else _)
      rw [hne]
      refine iteT ⟨fun σ' H' => ∃ y5 y6 l' r', σ' = [some (.ref a), some (.ref p), some (.int 0), some (.ref d), some (.ref rm), y5, y6] ∧ Same H H' ∧ H' d = some (.dK (dKv l')) ∧ H' rm = some (.lst (r'.map vN)) ∧ RSt F l' r' ∧
          (∀ i, i ∈ l' → i ∉ r' → Clo F l' i) ∧ 2 * (F.length - l'.length) + r'.length < 2 * (F.length - l.length) + (r0 ++ [i]).length,
        fun σ' H' ⟨y5, y6, l', r', e1, e2, e3, e4, e5, e6, e7⟩ => ⟨_, e7, y5, y6, l', r', e1, e2, e3, e4, e5, e6, rfl⟩, ?_⟩
      -- for bead in bags[rim.pop()]
      obtain ⟨c, hc1, hc2⟩ := hxi i hiF
      have hpop : ((r0 ++ [i]).map vN)[((r0 ++ [i]).map vN).length - 1]? = some (vN i) := by
        rw [List.map_append, List.length_append, List.length_map, List.map_cons, List.map_nil, List.length_singleton, List.getElem?_append_right (by rw [List.length_map]; omega), List.length_map]
        simp
      have hdrop : ((r0 ++ [i]).map vN).dropLast = r0.map vN := by rw [List.map_append, List.map_cons, List.map_nil, List.dropLast_concat]
      have hr2 : (upd H1 z (.lst [])) rm = some (.lst ((r0 ++ [i]).map vN)) := sz _ _ hr1
      refine ⟨_, rfl, _, rfl, tyL hr2, rm, _, vN i, rfl, rfl, hr2, hpop, ?_⟩
      rw [hdrop]
      have s2 : Same H (upd (upd H1 z (.lst [])) rm (.lst (r0.map vN))) := fun b o eb => by
        rw [upd_ne (ne_of_none eb hrm0)]
        exact sz _ _ (s1 _ _ eb)
      refine ⟨a, xs, (i : Int), .ref c, rfl, rfl, sqT (s2 _ _ ha), at_of (j := i) rfl hc1, c, rfl, ⟨_, sqT (s2 _ _ hc2)⟩, ?_⟩
      have hbm : F.getD i [] ∈ F := by
        rw [List.getD_eq_getElem?_getD, List.getElem?_eq_getElem hiF]
        exact List.getElem_mem hiF
      refine for_it (walk_tup (xs := (F.getD i []).map vN)) (fun j σ H3 => ∃ y5 y6 l' r', σ = [some (.ref a), some (.ref p), some (.int 0), some (.ref d), some (.ref rm), y5, y6] ∧ Same H H3 ∧ H3 d = some (.dK (dKv l')) ∧ H3 rm = some (.lst (r'.map vN)) ∧ RSt F l' r' ∧ (∀ k, k ∈ l → k ∈ l') ∧
          (∀ k, k ∈ l' → k ∉ r' → k ≠ i → Clo F l' k) ∧ (∀ x, x ∈ (F.getD i []).take j → ∀ k, k ∈ hom F x → k ∈ l') ∧ 2 * (F.length - l'.length) + r'.length ≤ 2 * (F.length - l.length) + r0.length)
        ⟨y5, y6, l, r0, rfl, s2, ?_, upd_same, ⟨R.nd, R.lt, R.zero, fun k hk => R.rim k (List.mem_append_left _ hk), (List.nodup_append.mp R.rnd).1⟩, (fun _ h => h), (fun k h1 h2 h3 => hclo k h1 (fun m => (List.mem_append.mp m).elim h2 fun m => h3 (List.mem_singleton.mp m))), (fun x hx => nomatch hx), Nat.le_refl _⟩
        (fun j σ H3 _ h => by obtain ⟨_, _, _, _, _, s3, _⟩ := h; exact sqT (s3 _ _ hc2)) ?_ ?_
      · rw [upd_ne (ne_of hd1 hr1 (fun z => nomatch z))]
        exact sz _ _ hd1
      · rintro j x σ H3 H4 hj ⟨y5, y6, l', r', rfl, s3, hd3, hr3, R3, hsub, hclo3, hdone, hm3⟩ ⟨rfl, ex⟩
        rw [List.getElem?_map] at ex
        obtain ⟨x, hxj, rfl⟩ := Option.map_eq_some_iff.mp ex
        have hxn : x < n := ht.lt _ hbm x (List.mem_of_getElem? hxj)
        obtain ⟨g, hg⟩ : ∃ g, as[x]? = some g := ⟨as[x]'(by rw [hH.len]; exact hxn), List.getElem?_eq_getElem _⟩
        have hgl := hH.el x g hg
        have hgG : H g = some (.lst ((hom F x).map vN)) := hgl
        -- for index in homes[bead]
        refine ⟨_, rfl, _, rfl, p, as.map V.ref, (x : Int), .ref g, rfl, rfl, sqL (s3 _ _ hH.top), at_of (j := x) rfl (by rw [List.getElem?_map, hg]; rfl), g, rfl, ⟨_, sqL (s3 _ _ hgG)⟩, ?_⟩
        refine for_it (walk_list (xs := (hom F x).map vN)) (fun t σ H5 => ∃ y6 l'' r'', σ = [some (.ref a), some (.ref p), some (.int 0), some (.ref d), some (.ref rm), some (vN x), y6] ∧ Same H H5 ∧ H5 d = some (.dK (dKv l'')) ∧ H5 rm = some (.lst (r''.map vN)) ∧ RSt F l'' r'' ∧ (∀ k, k ∈ l' → k ∈ l'') ∧
            (∀ k, k ∈ l'' → k ∉ r'' → k ≠ i → Clo F l'' k) ∧ (∀ k, k ∈ (hom F x).take t → k ∈ l'') ∧ 2 * (F.length - l''.length) + r''.length ≤ 2 * (F.length - l.length) + r0.length)
          ⟨y6, l', r', rfl, s3, hd3, hr3, R3, (fun _ h => h), hclo3, (fun k hk => nomatch hk), hm3⟩ (fun t σ H5 _ h => by obtain ⟨_, _, _, _, s5, _⟩ := h; exact sqL (s5 _ _ hgG)) ?_ ?_
        · rintro t k σ H5 H6 ht5 ⟨y6, l5, r5, rfl, s5, hd5, hr5, R5, hsub5, hclo5, hdone5, hm5⟩ ⟨rfl, ek⟩
          rw [List.getElem?_map] at ek
          obtain ⟨k, hk, rfl⟩ := Option.map_eq_some_iff.mp ek
          have hkF : k < F.length := (mem_hom.mp (List.mem_of_getElem? hk)).1
          have etk : (hom F x).take (t + 1) = (hom F x).take t ++ [k] := by rw [List.take_add_one, hk]; rfl
          refine ⟨_, rfl, _, rfl, d, _, rfl, DGet.k (k := Sum.inl (k : Int)) hd5, _, rfl, ?_⟩
          rw [valV_dKv]
          by_cases hkl : k ∈ l5
          · rw [decide_eq_true hkl]
            refine iteF ⟨some (vN k), l5, r5, rfl, s5, hd5, hr5, R5, hsub5, hclo5, fun z hz => ?_, hm5⟩
            rw [etk] at hz
            rcases List.mem_append.mp hz with hz | hz
            · exact hdone5 z hz
            · rw [List.mem_singleton.mp hz]; exact hkl
          · rw [decide_eq_false hkl]
            have R6 := R5.add hkF hkl
            have hsz := R6.size
            rw [List.length_append, List.length_singleton] at hsz
            refine iteT ⟨_, rfl, _, rfl, d, _, rfl, DPut.k (k := Sum.inl (k : Int)) hd5 ?_, ?_⟩
            · unfold dKv
              rw [List.length_map]
              exact sz1000 (by omega)
            rw [putK_dKv, if_neg hkl]
            have hr6 : (upd H6 d (.dK (dKv (l5 ++ [k])))) rm = some (.lst (r5.map vN)) := by
              rw [upd_ne (ne_of hr5 hd5 (fun z => nomatch z))]
              exact hr5
            refine ⟨_, rfl, tyL hr6, _, rfl, rm, _, _, rfl, rfl, hr6, ?_, ?_⟩
            · rw [List.length_map]
              have := R5.rsize
              exact sz1000 (by omega)
            refine ⟨some (vN k), l5 ++ [k], r5 ++ [k], rfl, fun b o eb => ?_, ?_, ?_, R6, fun z hz => List.mem_append_left _ (hsub5 z hz), fun z h1 h2 h3 => ?_, fun z hz => ?_, ?_⟩
            · rw [upd_ne (ne_of_none eb hrm0), upd_ne (ne_of_none eb hd)]
              exact s5 _ _ eb
            · rw [upd_ne (ne_of upd_same hr6 (fun z => nomatch z)), upd_same]
            · rw [upd_same, List.map_append]
              rfl
            · have h4 : z ∉ r5 := fun m => h2 (List.mem_append_left _ m)
              have h5 : z ∈ l5 := by
                rcases List.mem_append.mp h1 with h1 | h1
                · exact h1
                · exact absurd (List.mem_append_right _ h1) h2
              exact fun x' hx' k' hk' => List.mem_append_left _ (hclo5 z h5 h4 h3 x' hx' k' hk')
            · rw [etk] at hz
              rcases List.mem_append.mp hz with hz | hz
              · exact List.mem_append_left _ (hdone5 z hz)
              · exact List.mem_append_right _ hz
            · simp only [List.length_append, List.length_singleton]
              omega
        · rintro σ H5 ⟨y6, l5, r5, rfl, s5, hd5, hr5, R5, hsub5, hclo5, hdone5, hm5⟩
          refine ⟨_, y6, l5, r5, rfl, s5, hd5, hr5, R5, fun z hz => hsub5 z (hsub z hz), hclo5, fun x' hx' k hk => ?_, hm5⟩
          have etj : (F.getD i []).take (j + 1) = (F.getD i []).take j ++ [x] := by rw [List.take_add_one, hxj]; rfl
          rw [etj] at hx'
          rcases List.mem_append.mp hx' with hx' | hx'
          · exact hsub5 k (hdone x' hx' k hk)
          · rw [List.mem_singleton.mp hx'] at hk
            refine hdone5 k ?_
            rw [List.length_map, List.take_length]
            exact hk
      · rintro σ H3 ⟨y5, y6, l', r', rfl, s3, hd3, hr3, R3, hsub, hclo3, hdone, hm3⟩
        refine ⟨y5, y6, l', r', rfl, s3, hd3, hr3, R3, fun k h1 h2 => ?_, by rw [List.length_append, List.length_singleton]; omega⟩
        by_cases hki : k = i
        · subst hki
          intro x hx k' hk'
          refine hdone x ?_ k' hk'
          rw [List.length_map, List.take_length]
          exact hx
        · exact hclo3 k h1 h2 hki
end
end L2.SB
/-! The walk: bar_of. -/
namespace L2.SB
open PySem PySem.Spec PyProof.Rows Sb
open PySem.W (alike dataLt)
open C8 (Cal pe_c pe_gc)

abbrev s_bar_of : Stmt := top 18
theorem iteDF {c A B : Prop} [Decidable c] (hc : ¬ c) (h : B) : if decide c = true then A else B := by
  rw [decide_eq_false hc]
  exact iteF h
theorem iteDT {c A B : Prop} [Decidable c] (hc : c) (h : A) : if decide c = true then A else B := by
  rw [decide_eq_true hc]
  exact iteT h
theorem homesAt_of {H H1 : Hp} {p : Addr} {as : List Addr} {F : Fam} {n : Nat} (L : LLAt H H1 p as (hom F)) (h : as.length = n) : HomesAt H1 p as F n := ⟨L.top, h, L.el⟩
/-- two bags share one bead at most -/
theorem share_le {n : Nat} {F : Fam} (ht : Tree n F) {i j : Nat} {A B : Bag} (hi : F[i]? = some A) (hj : F[j]? = some B) (hij : i ≠ j) : (A.filter fun x => decide (x ∈ B)).length ≤ 1 := by
  have nd : (A.filter fun x => decide (x ∈ B)).Nodup := (up_nodup (ht.up _ (List.mem_of_getElem? hi))).filter _
  generalize hl : A.filter (fun x => decide (x ∈ B)) = l at nd
  match l, nd, hl with
  | [], _, _ => exact Nat.zero_le _
  | [_], _, _ => exact Nat.le_refl _
  | x :: y :: l, nd, hl =>
    have hx : x ∈ A.filter fun x => decide (x ∈ B) := by rw [hl]; simp
    have hy : y ∈ A.filter fun x => decide (x ∈ B) := by rw [hl]; simp
    rw [List.mem_filter, decide_eq_true_eq] at hx hy
    have e := ht.lin hi hj hij hx.1 hx.2 hy.1 hy.2
    subst e
    exact absurd nd (by simp)
theorem hom_ne {n : Nat} {F : Fam} (ht : Tree n F) {x : Nat} (hx : x < n) : hom F x ≠ [] := by
  obtain ⟨b, hb, hxb⟩ := ht.homes hx
  obtain ⟨i, hi⟩ := List.mem_iff_getElem?.mp hb
  have : i ∈ hom F x := mem_hom.mpr ⟨(List.getElem?_eq_some_iff.mp hi).1, by rw [List.getD_eq_getElem?_getD, hi]; exact hxb⟩
  exact List.ne_nil_of_mem this
theorem sum_wt {F : Fam} (h : ∀ b, b ∈ F → 2 ≤ b.length) : (F.map fun b => ((b.length : Nat) : Int) - 1).sum = ((wt F : Nat) : Int) := by
  induction F with
  | nil => rfl
  | cons b F ih =>
    rw [List.map_cons, List.sum_cons, ih fun c hc => h c (List.mem_cons_of_mem _ hc), wt_cons]
    have := h b List.mem_cons_self
    omega
section
variable {P : Program} {w : World} {K : PySem.W.Frag} {mg : Str → Option Value} {base : Heap}
def sp_bar_of : Sp := fun vs H Q _ => ∃ (v : V) (F : Fam) (n : Nat), vs = [v] ∧ Tq H v (encF F) ∧ Tree n F ∧ n ≤ 60 ∧ ∀ H', Same H H' → Q .non H'
theorem sc_bar_of : FnScope ["bags", "homes", "bead", "told", "at", "one", "spot", "bag"] ["bags"] (defScope s_bar_of) := ⟨rfl, rfl, rfl, by decide +kernel, rfl, by decide +kernel, by decide +kernel⟩
theorem ok_bar_of (T : Bt mg) (C1 : Cal P w K mg base 2 "homes_of" sp_homes_of []) (C2 : Cal P w K mg base 1 "shared_by" sp_shared_by []) (C3 : Cal P w K mg base 1 "reached_from" sp_reached_from [])
    (D : DefAt K mg "bar_of" s_bar_of ["bags"]) : Cal P w K mg base 3 "bar_of" sp_bar_of [] := by
  refine cal_ok D sc_bar_of (fun vs H Q E h => ?_) (fun f cdv A outer s H vs Q E hr h => ?_)
  · obtain ⟨v, F, n, rfl, _⟩ := h
    rfl
  · obtain ⟨v, F, n, rfl, hv, ht, hn60, q⟩ := h
    have hv0 := hv
    obtain ⟨a, xs, rfl, ha, hx⟩ := hv.fam
    have hxl : xs.length = F.length := by rw [hx.len, List.length_map]
    have hfew := ht.few
    have nd := sc_bar_of.nd
    refine ⟨_, pss_cons (ps_set (i := 1) nd rfl (Or.inl rfl) (pe_c C1 hr (by decide) (by rfl) (pa1 (pv 0))))
      (pss_cons (ps_for PassesOwn.never rfl (pi_enum (by rfl) T.enumerate (pa1 (pv 1))) (pg_tup (n := 2) rfl (pgs_cons (pg_name (i := 2) nd rfl (Or.inl rfl)) (pgs_cons (pg_name (i := 3) nd rfl (Or.inl rfl)) pgs_nil)))
        (pss_one (ps_if (pt_cmpR (op_eq0 (hu64 hr)) (pv 3) (pe_lst pa_nil) (nomark _)) pss_never pss_nil)))
      (pss_cons (ps_for PassesOwn.never rfl (pi_enumT (by rfl) T.enumerate (pa1 (pv 0))) (pg_tup (n := 2) rfl (pgs_cons (pg_name (i := 4) nd rfl (Or.inl rfl)) (pgs_cons (pg_name (i := 5) nd rfl (Or.inl rfl)) pgs_nil)))
        (pss_one (ps_for PassesOwn.never rfl (pi_range1 (by rfl) T.range (pa1 (pv 4))) (pg_name (i := 6) nd rfl (Or.inl rfl))
          (pss_one (ps_if (pt_cmp (pc_gt (x_len T (pe_c C2 hr (by decide) (by rfl) (pa2 (x_ixT (pv 0) (pv 6) (fun _ _ => rfl)) (pv 5)))) pe_int)) pss_never pss_nil)))))
      (pss_cons (ps_if (pt_cmp (pc_lt (x_lenD T (pe_c C3 hr (by decide) (by rfl) (pa_cons (pv 0) (pa2 (pv 1) pe_int)))) (x_len T (pv 0)))) pss_never pss_nil)
      (pss_cons (ps_if (pt_cmp (pc_gt (x_sum T rfl (pe_lc (own := [("bag", 7)]) (g := gName 7) (tt := tYes) (te := tOp (rI0 fun i j => .int (i - j)) (tCB (fun xs H Q => ∃ p ys, xs = [.ref p] ∧ (SqL K H p ys ∨ SqT K H p ys) ∧ Q (.int ys.length) H) (tCons (tVar 7) tNil)) (tC (.int 1))) (by rfl) nd (pi_tup (pv 0))
        (blkOk_by (N := ["bags", "homes", "bead", "told", "at", "one", "spot", "bag"]) (sc := defScope s_bar_of) (by decide +kernel)) (fun _ _ _ _ _ => pgn (i := 7) nd rfl rfl) (fun _ _ _ _ _ => pts_nil)
        (fun _ _ _ _ _ => pe_op op_sub (x_len T (pv 7)) pe_int))) (pe_op op_sub (x_len T (pv 1)) pe_int))) pss_never pss_nil)
      (pss_one (ps_ret pe_non)))))), ?_⟩
    refine ⟨_, rfl, _, F, n, rfl, hv0, ht, hn60, fun p as H1 L hl => ?_⟩
    have hH := homesAt_of L hl
    -- for bead, told in enumerate(homes)
    refine ⟨_, rfl, p, as.map V.ref, rfl, sqL L.top, for_it walk_enum (fun i σ H2 => ∃ y2 y3 y4 y5 y6 y7, σ = [some (.ref a), some (.ref p), y2, y3, y4, y5, y6, y7] ∧ Same H1 H2) ⟨_, _, _, _, _, _, rfl, Same.refl _⟩ (fun i σ H2 _ h => by
      obtain ⟨_, _, _, _, _, _, _, s⟩ := h
      exact sqL (s _ _ L.top)) ?_ ?_⟩
    · rintro i x σ H2 H3 hi ⟨y2, y3, y4, y5, y6, y7, rfl, s2⟩ ⟨T0, z1, z2, rfl, hT, rfl, ez1, ez2⟩
      have ez2 : (as.map V.ref)[i]? = some z2 := ez2
      rw [List.getElem?_map] at ez2
      obtain ⟨g, hg, rfl⟩ := Option.map_eq_some_iff.mp ez2
      have s3 := s2.trans (Same.new (o := .tup [z1, .ref g]) hT)
      have hil : i < n := by rw [← hl]; exact (List.getElem?_eq_some_iff.mp hg).1
      refine ⟨T0, [z1, .ref g], rfl, sqT upd_same, rfl, _, _, rfl, _, _, rfl, rfl, ?_⟩
      refine ⟨_, rfl, (by show 0 ≤ sizeLine; decide), fun e0 he0 => ?_⟩
      have s4 := s3.trans (Same.new (o := .lst []) he0)
      refine ⟨g, e0, (hom F i).map fun (n : Nat) => (n : Int), rfl, rfl, sqL ?_, sqL upd_same, _, rfl, ?_⟩
      · rw [s4 _ _ (L.el i g hg), List.map_map]
        rfl
      have hne : ((hom F i).map fun (n : Nat) => (n : Int)).isEmpty = false := by
        have := hom_ne ht hil
        cases h : hom F i with
        | nil => exact absurd h this
        | cons _ _ => rfl
      show (if ((hom F i).map fun (n : Nat) => (n : Int)).isEmpty = true then _ else _)
      rw [hne]
      exact iteF ⟨_, _, _, _, _, _, rfl, s4⟩
    · rintro σ H2 ⟨y2, y3, y4, y5, y6, y7, rfl, s2⟩
      have s0 := L.same
      -- for at, one in enumerate(bags)
      refine ⟨_, rfl, a, xs, rfl, sqT (s2 _ _ (s0 _ _ ha)), for_it walk_enumT (fun i σ H3 => ∃ y2 y3 y4 y5 y6 y7, σ = [some (.ref a), some (.ref p), y2, y3, y4, y5, y6, y7] ∧ Same H1 H3) ⟨_, _, _, _, _, _, rfl, s2⟩ (fun i σ H2 _ h => by
        obtain ⟨_, _, _, _, _, _, _, s⟩ := h
        exact sqT (s _ _ (s0 _ _ ha))) ?_ ?_⟩
      · rintro i x σ H3 H4 hi ⟨y2, y3, y4, y5, y6, y7, rfl, s3⟩ ⟨T0, z1, z2, rfl, hT, rfl, ez1, ez2⟩
        have ez1 : V.int (i : Nat) = z1 := by injection ez1
        subst ez1
        obtain ⟨b, hb1, hb2⟩ := hx.at ez2
        have s4 := s3.trans (Same.new (o := .tup [V.int (i : Nat), z2]) hT)
        refine ⟨T0, [V.int (i : Nat), z2], rfl, sqT upd_same, rfl, _, _, rfl, _, _, rfl, rfl, ?_⟩
        refine ⟨_, rfl, (i : Int), rfl, by omega, by omega, ?_⟩
        refine for_it (walk_range (lo := 0) (n := i)) (fun j σ H5 => ∃ y6, σ = [some (.ref a), some (.ref p), y2, y3, some (V.int (i : Nat)), some z2, y6, y7] ∧ Same H1 H5) ⟨_, rfl, s4⟩ (fun _ _ _ _ _ => True.intro) ?_ ?_
        · rintro j x σ H5 H6 hj ⟨y6, rfl, s5⟩ ⟨rfl, rfl⟩
          have hjx : j < xs.length := by omega
          obtain ⟨c, hc1, hc2⟩ := hx.at (List.getElem?_eq_getElem hjx)
          have s6 := s0.trans s5
          refine ⟨_, rfl, _, rfl, a, xs, (j : Int), xs[j], rfl, (by show V.int (0 + (j : Int)) = _; rw [Int.zero_add]), sqT (s6 _ _ ha), at_of (j := j) rfl (List.getElem?_eq_getElem hjx), _, rfl, ?_⟩
          have hcl : ∀ {k : Nat} {b : Bag}, F[k]? = some b → b.length ≤ 1000 := fun {k b} e => by
            have hb := List.mem_of_getElem? e
            have h1 := (up_nodup (ht.up b hb)).length_le_of_subset (l₂ := List.range n) fun x hx => List.mem_range.mpr (ht.lt b hb x hx)
            rw [List.length_range] at h1
            omega
          refine ⟨_, _, c, b, rfl, hc2.mono s6.tt, hb2.mono s6.tt, hcl hc1, hcl hb1, fun p1 H7 s7 hp1 e7 => ?_⟩
          refine ⟨p1, _, rfl, .inl (sqL e7), _, _, rfl, rfl, _, rfl, ?_⟩
          have hle := share_le ht hc1 hb1 (by omega)
          refine iteDF ?_ ⟨_, rfl, s5.trans s7⟩
          rw [List.length_map]
          omega
        · rintro σ H5 ⟨y6, rfl, s5⟩
          exact ⟨_, _, _, _, _, _, rfl, s5⟩
      · rintro σ H3 ⟨y2, y3, y4, y5, y6, y7, rfl, s3⟩
        have s4 := s0.trans s3
        -- if len(reached_from(bags, homes, 0)) < len(bags)
        refine ⟨_, rfl, _, rfl, _, F, n, p, as, rfl, hv0.mono s4.tt, ht, hn60, hH.keep s3, fun d kvs H4 s5 hd hdl => ?_⟩
        refine ⟨d, kvs, rfl, hd, ?_⟩
        have s6 := s4.trans s5
        refine ⟨_, rfl, a, xs, rfl, .inr (sqT (s6 _ _ ha)), _, _, rfl, rfl, _, rfl, ?_⟩
        refine iteDF (by omega) ?_
        -- if sum([len(bag) - 1 for bag in bags]) > len(homes) - 1
        refine ⟨_, rfl, a, rfl, ⟨_, sqT (s6 _ _ ha)⟩, fun D0 hD => ?_⟩
        refine lc_map (walk_tup (xs := xs)) (fun i y _ => ∃ b, F[i]? = some b ∧ y = V.int (((b.length : Nat) : Int) - 1)) hD (sz1000 (by omega)) (fun _ _ _ _ _ h => h) (fun H' s => sqT ((s6.trans s) _ _ ha)) ?_ ?_
        · rintro i x H5 H6 hi s7 ⟨rfl, e1⟩ K0 hK
          obtain ⟨b, hb1, hb2⟩ := hx.at e1
          obtain ⟨c, rfl, hc⟩ := (hb2.mono (s6.trans s7).tt).bag
          refine ⟨rfl, _, rfl, c, b.map vN, rfl, .inr (sqT hc), _, _, rfl, rfl, ?_⟩
          rw [List.length_map]
          exact hK _ _ (Same.refl _) ⟨b, hb1, rfl⟩
        · intro H' ys s7 e pr
          rw [hxl] at pr
          have eb := paired_ints (f := fun b : Bag => ((b.length : Nat) : Int) - 1) (paired_map pr)
          refine ⟨D0, F.map fun b => ((b.length : Nat) : Int) - 1, rfl, sqL (by rw [e, eb]), ?_⟩
          rw [sum_wt ht.two]
          have hwt := ht.wt
          refine ⟨_, rfl, p, as.map V.ref, rfl, .inl (sqL ((s3.trans (s5.trans s7)) _ _ L.top)), _, _, rfl, rfl, _, _, rfl, rfl, _, rfl, ?_⟩
          refine iteDF ?_ (q _ (s6.trans s7))
          rw [List.length_map]
          omega
end
end L2.SB
/-! The walk: need_family, need_few. -/
namespace L2.SB
open PySem PySem.Spec PyProof.Rows Sb
open PySem.W (alike dataLt)
open C8 (Cal pe_c pe_gc)

abbrev s_need_family : Stmt := top 20
abbrev s_need_few : Stmt := top 21
abbrev s_need_blind : Stmt := top 31
/-- a family as the program takes it -/
structure GoodF (n : Nat) (F : Fam) : Prop where
  tree : Tree n F
  few : n ≤ 7
  up : FamUp F
theorem Tree.len {n : Nat} {F : Fam} (t : Tree n F) {b : Bag} (hb : b ∈ F) : b.length ≤ n := by
  have h1 := (up_nodup (t.up b hb)).length_le_of_subset (l₂ := List.range n) fun x hx => List.mem_range.mpr (t.lt b hb x hx)
  rwa [List.length_range] at h1
theorem GoodF.good {n : Nat} {F : Fam} (g : GoodF n F) : ∀ b, b ∈ F → GoodB b := fun b hb =>
  ⟨g.tree.up b hb, g.tree.two b hb, fun x hx => by have := g.tree.lt b hb x hx; have := g.few; omega, by have := Tree.len g.tree hb; have := g.few; omega⟩
section
variable {P : Program} {w : World} {K : PySem.W.Frag} {mg : Str → Option Value} {base : Heap}
def sp_need_family : Sp := fun vs H Q _ => ∃ (v : V) (F : Fam) (n : Nat), vs = [v] ∧ Tq H v (encF F) ∧ GoodF n F ∧ ∀ H', Same H H' → Q .non H'
theorem sc_need_family : FnScope ["value"] ["value"] (defScope s_need_family) := ⟨rfl, rfl, rfl, by decide +kernel, rfl, by decide +kernel, by decide +kernel⟩
theorem ok_need_family (C1 : Cal P w K mg base 4 "need_bags" sp_need_bags []) (C2 : Cal P w K mg base 3 "bar_of" sp_bar_of []) (D : DefAt K mg "need_family" s_need_family ["value"]) : Cal P w K mg base 5 "need_family" sp_need_family [] := by
  refine cal_ok D sc_need_family (fun vs H Q E h => ?_) (fun f cdv A outer s H vs Q E hr h => ?_)
  · obtain ⟨v, F, n, rfl, _⟩ := h
    rfl
  · obtain ⟨v, F, n, rfl, hv, g, q⟩ := h
    have hf := g.tree.few
    have hn := g.few
    refine ⟨_, pss_cons (ps_expr (pe_c C1 hr (by decide) (by rfl) (pa1 (pv 0))))
      (pss_one (ps_if (pt_cmp (pc_notN (pe_c C2 hr (by decide) (by rfl) (pa1 (pv 0))))) pss_never pss_nil)), ?_⟩
    refine ⟨_, rfl, _, F, rfl, hv, g.tree.ne_nil, by omega, g.good, g.up, fun H1 s1 => ?_⟩
    refine ⟨_, rfl, _, F, n, rfl, hv.mono s1.tt, g.tree, by omega, fun H2 s2 => ?_⟩
    exact ⟨_, rfl, iteNS rfl (q _ (s1.trans s2))⟩

def sp_need_few : Sp := fun vs H Q _ => ∃ (v : V) (F : Fam) (n : Nat) (m : Int), vs = [v, .int m] ∧ Tq H v (encF F) ∧ GoodF n F ∧ 7 ≤ m ∧ ∀ H', Same H H' → Q .non H'
theorem sc_need_few : FnScope ["family", "most"] ["family", "most"] (defScope s_need_few) := ⟨rfl, rfl, rfl, by decide +kernel, rfl, by decide +kernel, by decide +kernel⟩
theorem ok_need_few (T : Bt mg) (C : Cal P w K mg base 5 "need_family" sp_need_family []) (D : DefAt K mg "need_few" s_need_few ["family", "most"]) : Cal P w K mg base 6 "need_few" sp_need_few [] := by
  refine cal_ok D sc_need_few (fun vs H Q E h => ?_) (fun f cdv A outer s H vs Q E hr h => ?_)
  · obtain ⟨v, F, n, m, rfl, _⟩ := h
    rfl
  · obtain ⟨v, F, n, m, rfl, hv, g, hm, q⟩ := h
    have hf := g.tree.few
    have hn := g.few
    refine ⟨_, pss_cons (ps_expr (pe_c C hr (by decide) (by rfl) (pa1 (pv 0))))
      (pss_one (ps_if (pt_cmp (pc_gt (x_len T (pv 0)) (pv 1))) pss_never pss_nil)), ?_⟩
    refine ⟨_, rfl, _, F, n, rfl, hv, g, fun H1 s1 => ?_⟩
    obtain ⟨a, xs, rfl, ha, hx⟩ := hv.fam
    have hxl : xs.length = F.length := by rw [hx.len, List.length_map]
    refine ⟨_, rfl, a, xs, rfl, .inr (sqT (s1 _ _ ha)), _, rfl, _, _, rfl, rfl, _, rfl, ?_⟩
    exact iteDF (by omega) (q _ s1)

/-- need_blind -/
def sp_need_blind : Sp := fun vs H Q _ => ∃ (v : V) (F : Fam) (n : Nat) (t : Nat), vs = [v, vN t] ∧ Tq H v (encF F) ∧ GoodF n F ∧ t < F.length ∧ ∀ H', Same H H' → Q .non H'
theorem sc_need_blind : FnScope ["family", "times"] ["family", "times"] (defScope s_need_blind) := ⟨rfl, rfl, rfl, by decide +kernel, rfl, by decide +kernel, by decide +kernel⟩
theorem ok_need_blind (T : Bt mg) (MB : ∃ u, mg "MOST_BAGS" = some u ∧ RelV (.int 8) u) (C1 : Cal P w K mg base 6 "need_few" sp_need_few []) (C2 : Cal P w K mg base 3 "need_number" sp_need_number []) (D : DefAt K mg "need_blind" s_need_blind ["family", "times"]) : Cal P w K mg base 7 "need_blind" sp_need_blind [] := by
  refine cal_ok D sc_need_blind (fun vs H Q E h => ?_) (fun f cdv A outer s H vs Q E hr h => ?_)
  · obtain ⟨v, F, n, t, rfl, _⟩ := h
    rfl
  · obtain ⟨v, F, n, t, rfl, hv, g, ht, q⟩ := h
    refine ⟨_, pss_cons (ps_expr (pe_c C1 hr (by decide) (by rfl) (pa2 (pv 0) (pe_gc (by rfl) MB))))
      (pss_one (ps_expr (pe_c C2 hr (by decide) (by rfl) (pa_cons (pv 1) (pa2 pe_int (pe_op op_sub (x_len T (pv 0)) pe_int)))))), ?_⟩
    refine ⟨_, rfl, _, F, n, 8, rfl, hv, g, by decide, fun H1 s1 => ?_⟩
    obtain ⟨a, xs, rfl, ha, hx⟩ := hv.fam
    have hxl : xs.length = F.length := by rw [hx.len, List.length_map]
    refine ⟨_, rfl, _, rfl, a, xs, rfl, .inr (sqT (s1 _ _ ha)), _, _, rfl, rfl, _, _, _, rfl, by omega, by omega, q _ s1⟩
end
end L2.SB
/-! Orders of bags, families, items. -/
namespace L2.SB
open PySem PySem.Spec PyProof.Rows Sb
open PySem.W (alike dataLt dataLe TotalLe rowLt)

theorem le_total {β : Type} (enc : β → PyData) : TotalLe (dataLe false enc) := PySem.W.sortLe_total _ _ _
theorem eqvAll_bag : ∀ b c : Bag, PyData.eqvAll (b.map encN) (c.map encN) = true → b = c
  | [], [], _ => rfl
  | [], _ :: _, h => by simp [PyData.eqvAll] at h
  | _ :: _, [], h => by simp [PyData.eqvAll] at h
  | x :: b, y :: c, h => by
    rw [List.map_cons, List.map_cons, PySem.W.eqv_all_cons, Bool.and_eq_true] at h
    have h1 : PyData.eqv (encN x) (encN y) = true := h.1
    have : x = y := by
      simp only [encN, PyData.eqv, beq_iff_eq] at h1
      omega
    rw [this, eqvAll_bag b c h.2]
theorem eqv_bag {b c : Bag} (h : PyData.eqv (encB b) (encB c) = true) : b = c := by
  unfold encB at h
  rw [PyData.eqv] at h
  exact eqvAll_bag b c h
theorem eqvAll_fam : ∀ F G : Fam, PyData.eqvAll (F.map encB) (G.map encB) = true → F = G
  | [], [], _ => rfl
  | [], _ :: _, h => by simp [PyData.eqvAll] at h
  | _ :: _, [], h => by simp [PyData.eqvAll] at h
  | x :: b, y :: c, h => by
    rw [List.map_cons, List.map_cons, PySem.W.eqv_all_cons, Bool.and_eq_true] at h
    rw [eqv_bag h.1, eqvAll_fam b c h.2]
theorem eqv_fam {F G : Fam} (h : PyData.eqv (encF F) (encF G) = true) : F = G := by
  unfold encF at h
  rw [PyData.eqv] at h
  exact eqvAll_fam F G h
theorem lt_bag (b c : Bag) : dataLt (encB b) (encB c) = decide ((b.map fun (n : Nat) => (n : Int)) < c.map fun (n : Nat) => (n : Int)) := by
  have e : ∀ b : Bag, b.map encN = (b.map fun (n : Nat) => (n : Int)).map PyData.int := fun b => by rw [List.map_map]; rfl
  unfold encB
  rw [PySem.W.dataLt_tuple, e, e]
  exact PySem.W.dataLt_ints _ _
theorem tri_bag {b c : Bag} (h1 : dataLt (encB b) (encB c) = false) (h2 : dataLt (encB c) (encB b) = false) : b = c := by
  rw [lt_bag, decide_eq_false_iff_not] at h1 h2
  have e := List.le_antisymm (List.not_lt.mp h2) (List.not_lt.mp h1)
  exact map_inj (fun x y h => by omega) e
theorem tri_fam : ∀ F G : Fam, dataLt (encF F) (encF G) = false → dataLt (encF G) (encF F) = false → F = G := by
  have main : ∀ F G : Fam, rowLt (F.map encB) (G.map encB) = false → rowLt (G.map encB) (F.map encB) = false → F = G := by
    intro F
    induction F with
    | nil =>
      intro G h1 h2
      cases G with
      | nil => rfl
      | cons y G =>
        have : rowLt [] (encB y :: G.map encB) = true := by
          unfold rowLt
          rw [PySem.W.toks_all_cons]
          simp only [PySem.W.keyToksAll]
          rw [lex_diff (O := itemOrd) (by simp)]
          rfl
        rw [List.map_nil, List.map_cons, this] at h1
        cases h1
    | cons x F ih =>
      intro G h1 h2
      cases G with
      | nil =>
        have : rowLt [] (encB x :: F.map encB) = true := by
          unfold rowLt
          rw [PySem.W.toks_all_cons]
          simp only [PySem.W.keyToksAll]
          rw [lex_diff (O := itemOrd) (by simp)]
          rfl
        rw [List.map_nil, List.map_cons, this] at h2
        cases h2
      | cons y G =>
        unfold rowLt at h1 h2
        rw [List.map_cons, List.map_cons, PySem.W.dataLt_cons (alike_B x y)] at h1
        rw [List.map_cons, List.map_cons, PySem.W.dataLt_cons (alike_B y x)] at h2
        cases e : PyData.eqv (encB x) (encB y) with
        | true =>
          have hxy := eqv_bag e
          subst hxy
          rw [if_pos e] at h1 h2
          rw [ih G h1 h2]
        | false =>
          have e' : PyData.eqv (encB y) (encB x) = false := by
            cases q : PyData.eqv (encB y) (encB x) with
            | false => rfl
            | true =>
              have hq := eqv_bag q
              subst hq
              rw [q] at e
              cases e
          rw [if_neg (by rw [e]; exact Bool.false_ne_true)] at h1
          rw [if_neg (by rw [e']; exact Bool.false_ne_true)] at h2
          have hxy := tri_bag h1 h2
          subst hxy
          have hl : PyData.eqv (encB x) (encB x) = true := PySem.W.eqv_refl_alike _ (alike_B x x)
          rw [hl] at e
          cases e
  intro F G h1 h2
  unfold encF at h1 h2
  rw [PySem.W.dataLt_tuple] at h1 h2
  exact main F G h1 h2
/-- the sorted list of a list without doubles is strict -/
theorem sort_fam {F : Fam} (nd : F.Nodup) : FamUp (F.mergeSort (dataLe false encB)) := by
  intro i b c hb hc
  have h1 := PySem.W.sort_pairwise (le_total encB) F
  have h2 : (F.mergeSort (dataLe false encB)).Nodup := (List.mergeSort_perm F _).nodup_iff.mpr nd
  obtain ⟨l1, e1⟩ := List.getElem?_eq_some_iff.mp hb
  obtain ⟨l2, e2⟩ := List.getElem?_eq_some_iff.mp hc
  have h3 := List.pairwise_iff_getElem.mp h1 i (i + 1) l1 l2 (Nat.lt_succ_self _)
  have h4 := List.pairwise_iff_getElem.mp h2 i (i + 1) l1 l2 (Nat.lt_succ_self _)
  rw [e1, e2] at h3 h4
  have h5 : (!dataLt (encB c) (encB b)) = true := h3
  rw [Bool.not_eq_true'] at h5
  cases e : dataLt (encB b) (encB c) with
  | true => rfl
  | false => exact absurd (tri_bag e h5) h4
/-- two sorted lists with the same items -/
theorem sorted_eq {β : Type} {enc : β → PyData} (tri : ∀ b c, dataLt (enc b) (enc c) = false → dataLt (enc c) (enc b) = false → b = c) {l m : List β} (p : l.Perm m) : l.mergeSort (dataLe false enc) = m.mergeSort (dataLe false enc) := by
  refine List.Perm.eq_of_pairwise (le := fun a b => dataLe false enc a b = true) (fun a b _ _ h1 h2 => ?_) (PySem.W.sort_pairwise (le_total enc) l) (PySem.W.sort_pairwise (le_total enc) m) (((List.mergeSort_perm l _).trans p).trans (List.mergeSort_perm m _).symm)
  have h3 : (!dataLt (enc b) (enc a)) = true := h1
  have h4 : (!dataLt (enc a) (enc b)) = true := h2
  rw [Bool.not_eq_true'] at h3 h4
  exact tri a b h4 h3
/-- items, sorted: by their keys -/
theorem sort_items {L : List (Fam × Rat2)} (nd : (L.map (·.1)).Nodup) : (L.mergeSort (dataLe false encI)).map (·.1) = (L.map (·.1)).mergeSort (dataLe false encF) := by
  refine PySem.W.sort_maps (fun x : Fam × Rat2 => x.1) fun a ha b hb => ?_
  show (!dataLt (encI b) (encI a)) = (!dataLt (encF b.1) (encF a.1))
  by_cases e : a.1 = b.1
  · have hab : a = b := by
      obtain ⟨i, hi⟩ := List.mem_iff_getElem?.mp ha
      obtain ⟨j, hj⟩ := List.mem_iff_getElem?.mp hb
      have h1 : (L.map (·.1))[i]? = some a.1 := by rw [List.getElem?_map, hi]; rfl
      have h2 : (L.map (·.1))[j]? = some a.1 := by rw [List.getElem?_map, hj, e]; rfl
      have := (List.getElem?_inj (List.getElem?_eq_some_iff.mp h1).1 nd).mp (h1.trans h2.symm)
      subst this
      rw [hi] at hj
      exact Option.some.inj hj
    subst hab
    have h1 := (le_total encI).refl a
    have h2 := (le_total encF).refl a.1
    exact h1.trans h2.symm
  · have ne : PyData.eqv (encF b.1) (encF a.1) = false := by
      cases h : PyData.eqv (encF b.1) (encF a.1) with
      | false => rfl
      | true => exact absurd (eqv_fam h).symm e
    have e2 : dataLt (encI b) (encI a) = dataLt (encF b.1) (encF a.1) := by
      show dataLt (.tuple [encF b.1, encR b.2]) (.tuple [encF a.1, encR a.2]) = _
      rw [PySem.W.dataLt_pair (alike_F _ _) (alike_R _ _), if_neg (by rw [ne]; exact Bool.false_ne_true)]
    rw [e2]
/-- pairs of numbers -/
def encP (p : Nat × Nat) : PyData := .tuple [encN p.1, encN p.2]
theorem le_P : dataLe false encP = fun p q => decide (p.1 < q.1 ∨ (p.1 = q.1 ∧ p.2 ≤ q.2)) := by
  have h := PySem.W.dataLe_ii (β := Nat × Nat) (fun p => (p.1 : Int)) (fun p => (p.2 : Int))
  have e : dataLe false encP = dataLe false (fun b : Nat × Nat => .tuple [.int (b.1 : Int), .int (b.2 : Int)]) := rfl
  rw [e, h]
  funext p q
  rw [decide_eq_decide]
  omega
theorem alike_P (p q : Nat × Nat) : alike (encP p) (encP q) = true := rfl
theorem depth_P (p : Nat × Nat) : (encP p).depth ≤ 8 := by
  simp [encP, PyData.depth, PyData.depthAll]
end L2.SB
/-! Pours: plain. -/
namespace L2.SB
open PySem PySem.Spec PyProof.Rows Sb
open PySem.W (alike dataLt dataLe TotalLe rowLt)

/-- the beads of two bags, each once, upwards -/
def uni (A B : Bag) : Bag := (dd (A ++ B)).mergeSort (fun a b => decide (a ≤ b))
theorem mem_uni {A B : Bag} {x : Nat} : x ∈ uni A B ↔ x ∈ A ∨ x ∈ B := by
  unfold uni
  rw [List.mem_mergeSort, mem_dd, List.mem_append]
theorem uni_nodup (A B : Bag) : (uni A B).Nodup := (List.mergeSort_perm _ _).nodup_iff.mpr (nodup_dd _)
theorem uni_up (A B : Bag) : (uni A B).Pairwise (· < ·) := by
  have h : (uni A B).Pairwise (fun a b => decide (a ≤ b) = true) := List.pairwise_mergeSort (fun a b c h1 h2 => by rw [decide_eq_true_eq] at *; omega) (fun a b => by rw [Bool.or_eq_true, decide_eq_true_eq, decide_eq_true_eq]; omega) _
  refine (h.and (uni_nodup A B)).imp fun {a b} hh => ?_
  have h1 := of_decide_eq_true hh.1
  have h2 := hh.2
  omega
/-- whoever sorts them finds the same -/
theorem uni_eq {A B : Bag} {ns : List Int} (h1 : ns.Pairwise (· < ·)) (h2 : ∀ k : Int, k ∈ ns ↔ ∃ x : Nat, (x ∈ A ∨ x ∈ B) ∧ k = (x : Int)) : ns = (uni A B).map fun (n : Nat) => (n : Int) := by
  have u : ((uni A B).map fun (n : Nat) => (n : Int)).Pairwise (· < ·) := List.pairwise_map.mpr ((uni_up A B).imp fun h => by omega)
  have p : ns.Perm ((uni A B).map fun (n : Nat) => (n : Int)) := by
    refine (List.perm_ext_iff_of_nodup (h1.imp fun h => by omega) (u.imp fun h => by omega)).mpr fun k => ?_
    rw [h2, List.mem_map]
    refine ⟨fun ⟨x, hx, e⟩ => ⟨x, mem_uni.mpr hx, e.symm⟩, fun ⟨x, hx, e⟩ => ⟨x, mem_uni.mp hx, e.symm⟩⟩
  exact List.Perm.eq_of_pairwise (le := fun a b : Int => a < b) (fun a b _ _ h h' => by omega) h1 u p
/-- the bags beside two -/
def rest (F : Fam) (i j : Nat) : Fam := ((List.range F.length).filter fun k => !(decide (k = i) || decide (k = j))).map fun k => F.getD k []
def pour (F : Fam) (i j : Nat) : Fam := (rest F i j ++ [uni (F.getD i []) (F.getD j [])]).mergeSort (dataLe false encB)
theorem getD_of {F : Fam} {k : Nat} {b : Bag} (h : F[k]? = some b) : F.getD k [] = b := by rw [List.getD_eq_getElem?_getD, h]; rfl
theorem getD_mem {F : Fam} {k : Nat} (h : k < F.length) : F.getD k [] ∈ F := by
  rw [List.getD_eq_getElem?_getD, List.getElem?_eq_getElem h]
  exact List.getElem_mem h
theorem range_map (F : Fam) : (List.range F.length).map (fun k => F.getD k []) = F := by
  refine List.ext_getElem? fun i => ?_
  rw [List.getElem?_map]
  by_cases h : i < F.length
  · rw [List.getElem?_range h, List.getElem?_eq_getElem h]
    show some (F.getD i []) = _
    rw [List.getD_eq_getElem?_getD, List.getElem?_eq_getElem h]
    rfl
  · rw [List.getElem?_eq_none (by rw [List.length_range]; omega), List.getElem?_eq_none (by omega)]
    rfl
theorem split_perm {F : Fam} {i j : Nat} (hij : i < j) (hj : j < F.length) : (F.getD i [] :: F.getD j [] :: rest F i j).Perm F := by
  have h1 := List.filter_append_perm (fun k => (decide (k = i) || decide (k = j))) (List.range F.length)
  have h2 : ((List.range F.length).filter fun k => (decide (k = i) || decide (k = j))).Perm [i, j] := by
    refine (List.perm_ext_iff_of_nodup (List.nodup_range.filter _) (by simp; omega)).mpr fun k => ?_
    rw [List.mem_filter, List.mem_range]
    simp
    omega
  have h3 := ((h2.append_right _).symm.trans h1).map fun k => F.getD k []
  rw [range_map, List.map_append] at h3
  exact h3
/-- two bags that share a bead, poured into one -/
theorem join_tree {n : Nat} {A B : Bag} {R : Fam} (t : Tree n (A :: B :: R)) {x : Nat} (hA : x ∈ A) (hB : x ∈ B) : Tree n (uni A B :: R) := by
  have mA : A ∈ A :: B :: R := by simp
  have mB : B ∈ A :: B :: R := by simp
  have mR : ∀ b, b ∈ R → b ∈ A :: B :: R := fun b h => by simp [h]
  have ndA := up_nodup (t.up A mA)
  have ndB := up_nodup (t.up B mB)
  refine ⟨fun b hb => ?_, fun b hb => ?_, fun b hb y hy => ?_, fun c hc => ?_, ?_, t.size⟩
  · rcases List.mem_cons.mp hb with rfl | hb
    · exact uni_up A B
    · exact t.up b (mR b hb)
  · rcases List.mem_cons.mp hb with rfl | hb
    · have h1 := ndA.length_le_of_subset (l₂ := uni A B) fun y hy => mem_uni.mpr (.inl hy)
      have h2 := t.two A mA
      omega
    · exact t.two b (mR b hb)
  · rcases List.mem_cons.mp hb with rfl | hb
    · rcases mem_uni.mp hy with h | h
      · exact t.lt A mA y h
      · exact t.lt B mB y h
    · exact t.lt b (mR b hb) y hy
  · refine t.conn c fun b hb => ?_
    have hu := hc (uni A B) List.mem_cons_self
    rcases List.mem_cons.mp hb with rfl | hb
    · exact fun y hy z hz => hu y (mem_uni.mpr (.inl hy)) z (mem_uni.mpr (.inl hz))
    · rcases List.mem_cons.mp hb with rfl | hb
      · exact fun y hy z hz => hu y (mem_uni.mpr (.inr hy)) z (mem_uni.mpr (.inr hz))
      · exact hc b (List.mem_cons_of_mem _ hb)
  · have h := t.wt
    rw [wt_cons, wt_cons] at h
    rw [wt_cons]
    have h1 := (uni_nodup A B).length_le_of_subset (l₂ := A ++ B.erase x) fun y hy => by
      rw [List.mem_append]
      rcases mem_uni.mp hy with h | h
      · exact .inl h
      · by_cases e : y = x
        · subst e; exact .inl hA
        · exact .inr ((List.mem_erase_of_ne e).mpr h)
    rw [List.length_append, List.length_erase_of_mem hB] at h1
    have h2 := t.two A mA
    have h3 := t.two B mB
    omega
theorem rest_len {F : Fam} {i j : Nat} (hij : i < j) (hj : j < F.length) : (rest F i j).length + 2 = F.length := by
  have := (split_perm hij hj).length_eq
  rw [List.length_cons, List.length_cons] at this
  exact this
theorem pour_perm (F : Fam) (i j : Nat) : (uni (F.getD i []) (F.getD j []) :: rest F i j).Perm (pour F i j) := by
  unfold pour
  refine List.Perm.trans ?_ (List.mergeSort_perm _ _).symm
  exact (List.perm_append_singleton _ _).symm
theorem pour_len {F : Fam} {i j : Nat} (hij : i < j) (hj : j < F.length) : (pour F i j).length + 1 = F.length := by
  have h1 := (pour_perm F i j).length_eq
  have h2 := rest_len hij hj
  rw [List.length_cons] at h1
  omega
def shares (F : Fam) (i j : Nat) : Bool := (F.getD i []).any fun x => decide (x ∈ F.getD j [])
theorem pour_tree {n : Nat} {F : Fam} (t : Tree n F) {i j : Nat} (hij : i < j) (hj : j < F.length) (hs : shares F i j = true) : Tree n (pour F i j) := by
  obtain ⟨x, hx, hx2⟩ := List.any_eq_true.mp hs
  exact (join_tree (t.perm (split_perm hij hj)) hx (of_decide_eq_true hx2)).perm (pour_perm F i j).symm
theorem pour_good {n : Nat} {F : Fam} (t : GoodF n F) {i j : Nat} (hij : i < j) (hj : j < F.length) (hs : shares F i j = true) : GoodF n (pour F i j) := by
  have h := pour_tree t.tree hij hj hs
  refine ⟨h, t.few, ?_⟩
  have nd := h.nodup
  unfold pour at nd ⊢
  exact sort_fam ((List.mergeSort_perm _ _).nodup_iff.mp nd)
/-! ### the pairs that may be poured -/
def poursAt (F : Fam) (i : Nat) : List (Nat × Nat) := ((List.range F.length).filter fun j => decide (i < j) && shares F i j).map fun j => (i, j)
def pours (F : Fam) : List (Nat × Nat) := (List.range F.length).flatMap (poursAt F)
theorem mem_pours {F : Fam} {p : Nat × Nat} : p ∈ pours F ↔ p.1 < p.2 ∧ p.2 < F.length ∧ shares F p.1 p.2 = true := by
  unfold pours poursAt
  rw [List.mem_flatMap]
  constructor
  · rintro ⟨i, hi, h⟩
    obtain ⟨j, hj, rfl⟩ := List.mem_map.mp h
    rw [List.mem_filter, List.mem_range, Bool.and_eq_true, decide_eq_true_eq] at hj
    exact ⟨hj.2.1, hj.1, hj.2.2⟩
  · rintro ⟨h1, h2, h3⟩
    refine ⟨p.1, List.mem_range.mpr (by omega), List.mem_map.mpr ⟨p.2, ?_, rfl⟩⟩
    rw [List.mem_filter, List.mem_range, Bool.and_eq_true, decide_eq_true_eq]
    exact ⟨h2, h1, h3⟩
theorem pours_up (F : Fam) : (pours F).Pairwise fun p q => p.1 < q.1 ∨ (p.1 = q.1 ∧ p.2 < q.2) := by
  unfold pours
  rw [List.pairwise_flatMap]
  constructor
  · intro i hi
    unfold poursAt
    rw [List.pairwise_map]
    exact (List.pairwise_lt_range.filter _).imp fun h => .inr ⟨rfl, h⟩
  · refine List.pairwise_lt_range.imp fun {i j} hij p hp q hq => .inl ?_
    obtain ⟨_, _, rfl⟩ := List.mem_map.mp hp
    obtain ⟨_, _, rfl⟩ := List.mem_map.mp hq
    exact hij
theorem pours_nodup (F : Fam) : (pours F).Nodup := (pours_up F).imp fun {p q} h e => by
  subst e
  omega
/-- whoever sorts the pairs finds the same -/
theorem pours_sort {F : Fam} {l : List (Nat × Nat)} (p : l.Perm (pours F)) : l.mergeSort (dataLe false encP) = pours F := by
  have hle : ∀ p q, dataLe false encP p q = true ↔ (p.1 < q.1 ∨ (p.1 = q.1 ∧ p.2 ≤ q.2)) := fun p q => by rw [le_P, decide_eq_true_eq]
  refine List.Perm.eq_of_pairwise (le := fun a b => dataLe false encP a b = true) (fun a b _ _ h1 h2 => ?_) (PySem.W.sort_pairwise (le_total encP) l) ((pours_up F).imp fun {a b} h => ?_) ((List.mergeSort_perm l _).trans p)
  · rw [hle] at h1 h2
    obtain ⟨a1, a2⟩ := a
    obtain ⟨b1, b2⟩ := b
    have h1 : a1 < b1 ∨ (a1 = b1 ∧ a2 ≤ b2) := h1
    have h2 : b1 < a1 ∨ (b1 = a1 ∧ b2 ≤ a2) := h2
    have e1 : a1 = b1 := by omega
    have e2 : a2 = b2 := by omega
    rw [e1, e2]
  · rw [hle]
    omega
/-- of two bags or more some two share a bead -/
theorem pours_some {n : Nat} {F : Fam} (t : Tree n F) (h2 : 2 ≤ F.length) : pours F ≠ [] := by
  intro e
  have hno : ∀ j, 0 < j → j < F.length → shares F 0 j = false := fun j h h' => by
    cases hs : shares F 0 j with
    | false => rfl
    | true =>
      have := mem_pours (p := (0, j)).mpr ⟨h, h', hs⟩
      rw [e] at this
      cases this
  have hc := t.conn (fun x => if x ∈ F.getD 0 [] then 1 else 0) (fun b hb x hx y hy => by
    show (if x ∈ F.getD 0 [] then 1 else 0) = (if y ∈ F.getD 0 [] then 1 else 0)
    obtain ⟨k, hk⟩ := List.mem_iff_getElem?.mp hb
    by_cases h0 : k = 0
    · subst h0
      have e0 := getD_of hk
      rw [if_pos (by rw [e0]; exact hx), if_pos (by rw [e0]; exact hy)]
    · have hf := hno k (by omega) (List.getElem?_eq_some_iff.mp hk).1
      have hn : ∀ z, z ∈ b → z ∉ F.getD 0 [] := fun z hz m => by
        have : shares F 0 k = true := List.any_eq_true.mpr ⟨z, m, decide_eq_true (by rw [getD_of hk]; exact hz)⟩
        rw [hf] at this
        cases this
      rw [if_neg (hn x hx), if_neg (hn y hy)])
  have m0 := getD_mem (F := F) (k := 0) (by omega)
  have m1 := getD_mem (F := F) (k := 1) (by omega)
  obtain ⟨x, hx⟩ := List.exists_mem_of_ne_nil _ (t.ne m0)
  obtain ⟨y, hy⟩ := List.exists_mem_of_ne_nil _ (t.ne m1)
  have e2 : (if x ∈ F.getD 0 [] then 1 else 0) = (if y ∈ F.getD 0 [] then 1 else 0) := hc x (t.lt _ m0 x hx) y (t.lt _ m1 y hy)
  rw [if_pos hx] at e2
  have hny : y ∉ F.getD 0 [] := fun m => by
    have : shares F 0 1 = true := List.any_eq_true.mpr ⟨y, m, decide_eq_true hy⟩
    rw [hno 1 (by omega) (by omega)] at this
    cases this
  rw [if_neg hny] at e2
  cases e2
theorem pours_len {F : Fam} (h : F.length ≤ 6) : (pours F).length ≤ 15 := by
  have key : ∀ p, p ∈ pours F → p ∈ [(0,1),(0,2),(0,3),(0,4),(0,5),(1,2),(1,3),(1,4),(1,5),(2,3),(2,4),(2,5),(3,4),(3,5),(4,5)] := by
    rintro ⟨i, j⟩ hp
    obtain ⟨h1, h2, _⟩ := mem_pours.mp hp
    have h1 : i < j := h1
    have h2 : j < F.length := h2
    have hj : j < 6 := by omega
    match j, hj with
    | 0, _ => omega
    | 1, _ => have : i = 0 := by omega
              subst this; simp
    | 2, _ => match i, h1 with
              | 0, _ => simp
              | 1, _ => simp
    | 3, _ => match i, h1 with
              | 0, _ => simp
              | 1, _ => simp
              | 2, _ => simp
    | 4, _ => match i, h1 with
              | 0, _ => simp
              | 1, _ => simp
              | 2, _ => simp
              | 3, _ => simp
    | 5, _ => match i, h1 with
              | 0, _ => simp
              | 1, _ => simp
              | 2, _ => simp
              | 3, _ => simp
              | 4, _ => simp
  exact (pours_nodup F).length_le_of_subset key
theorem dvd_L {k : Nat} (h0 : 0 < k) (h : k ≤ 15) : k ∣ 360360 := by
  have : ∀ k, k < 16 → 0 < k → k ∣ 360360 := by decide
  exact this k (by omega) h0
end L2.SB
/-! What the turns make: plain. -/
namespace L2.SB
open PySem PySem.Spec PyProof.Rows Sb
open PySem.W (alike dataLt dataLe)

abbrev FR := List (Fam × Rat2)
def getL (L : FR) (F : Fam) : Option Rat2 := (L.find? fun e => decide (e.1 = F)).map (·.2)
def putL (L : FR) (F : Fam) (r : Rat2) : FR := if (L.any fun e => decide (e.1 = F)) = true then L.map (fun e => if e.1 = F then (e.1, r) else e) else L ++ [(F, r)]
def addL (L : FR) (c : Fam × Rat2) : FR := putL L c.1 (plusR ((getL L c.1).getD (0, 1)) c.2)
def partOf (h : Fam) (s : Rat2) : Rat2 := low s.1 (s.2 * (pours h).length)
def contribOf (h : Fam) (s : Rat2) : FR := (pours h).map fun p => (pour h p.1 p.2, partOf h s)
def contrib (L : FR) : FR := L.flatMap fun e => contribOf e.1 e.2
def blind (F : Fam) : Nat → FR
  | 0 => [(F, (1, 1))]
  | t + 1 => (contrib (blind F t)).foldl addL []
/-- what is true of the entries -/
structure OkL (n m D B N : Nat) (L : FR) : Prop where
  nd : (L.map (·.1)).Nodup
  good : ∀ e, e ∈ L → GoodF n e.1 ∧ e.1.length = m ∧ RB D B e.2
  len : L.length ≤ N
theorem getL_mem {L : FR} {F : Fam} {r : Rat2} (h : getL L F = some r) : (F, r) ∈ L := by
  obtain ⟨e, he, rfl⟩ := Option.map_eq_some_iff.mp h
  have h1 := List.find?_some he
  have h2 := List.mem_of_find?_eq_some he
  have : e.1 = F := of_decide_eq_true h1
  subst this
  exact h2
theorem getL_of {L : FR} (nd : (L.map (·.1)).Nodup) {F : Fam} {r : Rat2} (h : (F, r) ∈ L) : getL L F = some r := by
  induction L with
  | nil => cases h
  | cons e L ih =>
    rw [List.map_cons, List.nodup_cons] at nd
    unfold getL
    rw [List.find?_cons]
    rcases List.mem_cons.mp h with rfl | h
    · simp
    · have hne : e.1 ≠ F := fun z => nd.1 (by rw [z]; exact List.mem_map.mpr ⟨_, h, rfl⟩)
      rw [decide_eq_false hne]
      exact ih nd.2 h
theorem any_key {L : FR} {F : Fam} : (L.any fun e => decide (e.1 = F)) = true ↔ F ∈ L.map (·.1) := by
  rw [List.any_eq_true, List.mem_map]
  constructor
  · rintro ⟨e, he, h⟩; exact ⟨e, he, of_decide_eq_true h⟩
  · rintro ⟨e, he, h⟩; exact ⟨e, he, decide_eq_true h⟩
theorem putL_keys (L : FR) (F : Fam) (r : Rat2) : (putL L F r).map (·.1) = if F ∈ L.map (·.1) then L.map (·.1) else L.map (·.1) ++ [F] := by
  unfold putL
  by_cases h : F ∈ L.map (·.1)
  · rw [if_pos (any_key.mpr h), if_pos h, List.map_map]
    refine List.map_congr_left fun e _ => ?_
    show (if e.1 = F then (e.1, r) else e).1 = e.1
    split <;> rfl
  · rw [if_neg (fun z => h (any_key.mp z)), if_neg h, List.map_append]
    rfl
theorem putL_mem {L : FR} {F : Fam} {r : Rat2} {e : Fam × Rat2} (h : e ∈ putL L F r) : e ∈ L ∨ e = (F, r) := by
  unfold putL at h
  split at h
  · obtain ⟨e', h1, h2⟩ := List.mem_map.mp h
    split at h2
    · rename_i hk
      subst h2
      exact .inr (by rw [← hk])
    · subst h2; exact .inl h1
  · rcases List.mem_append.mp h with h | h
    · exact .inl h
    · exact .inr (List.mem_singleton.mp h)
theorem putL_len (L : FR) (F : Fam) (r : Rat2) : (putL L F r).length ≤ L.length + 1 := by
  unfold putL
  split
  · rw [List.length_map]; omega
  · rw [List.length_append]; exact Nat.le_refl _
theorem putL_ne (L : FR) (F : Fam) (r : Rat2) : putL L F r ≠ [] := by
  intro z
  have := putL_keys L F r
  rw [z] at this
  split at this
  · rename_i h
    rw [← this] at h
    cases h
  · simp at this
theorem addL_ok {n m D B N c : Nat} {L : FR} {x : Fam × Rat2} (h : OkL n m D (B * c) N L) (g : GoodF n x.1) (l : x.1.length = m) (r : RB D B x.2) : OkL n m D (B * (c + 1)) (N + 1) (addL L x) := by
  unfold addL
  refine ⟨?_, fun e he => ?_, ?_⟩
  · rw [putL_keys]
    split
    · exact h.nd
    · rename_i hn; exact nd_snoc h.nd hn
  · rcases putL_mem he with he | he
    · obtain ⟨h1, h2, h3⟩ := h.good e he
      exact ⟨h1, h2, h3.mono (Nat.dvd_refl _) (Nat.mul_le_mul_left _ (Nat.le_succ _))⟩
    · subst he
      refine ⟨g, l, ?_⟩
      show RB D (B * (c + 1)) (plusR ((getL L x.1).getD (0, 1)) x.2)
      rw [Nat.mul_add, Nat.mul_one]
      refine RB.plus ?_ r
      cases hg : getL L x.1 with
      | none => exact RB.zero _
      | some r' => exact (h.good _ (getL_mem hg)).2.2
  · have := putL_len L x.1 (plusR ((getL L x.1).getD (0, 1)) x.2)
    have := h.len
    omega
theorem nil_ok (n m D B N : Nat) : OkL n m D B N [] := ⟨List.nodup_nil, (fun _ h => nomatch h), Nat.zero_le _⟩
theorem fold_ok {n m D B : Nat} : ∀ {cs : FR} {c : Nat} {L : FR}, OkL n m D (B * c) c L → (∀ e, e ∈ cs → GoodF n e.1 ∧ e.1.length = m ∧ RB D B e.2) → OkL n m D (B * (c + cs.length)) (c + cs.length) (cs.foldl addL L)
  | [], c, L, h, _ => h
  | x :: cs, c, L, h, q => by
    obtain ⟨h1, h2, h3⟩ := q x List.mem_cons_self
    have := fold_ok (cs := cs) (addL_ok h h1 h2 h3) fun e he => q e (List.mem_cons_of_mem _ he)
    rw [List.foldl_cons, List.length_cons]
    have e : c + (cs.length + 1) = c + 1 + cs.length := by omega
    rw [e]
    exact this
theorem acc_ok {n m D B : Nat} {cs : FR} (q : ∀ e, e ∈ cs → GoodF n e.1 ∧ e.1.length = m ∧ RB D B e.2) : OkL n m D (B * cs.length) cs.length (cs.foldl addL []) := by
  have := fold_ok (c := 0) (L := []) (nil_ok n m D (B * 0) 0) q
  rwa [Nat.zero_add] at this
theorem fold_ne {cs : FR} (h : cs ≠ []) : cs.foldl addL [] ≠ [] := by
  rcases List.eq_nil_or_concat cs with rfl | ⟨l, x, rfl⟩
  · exact absurd rfl h
  · rw [List.concat_eq_append, List.foldl_append]
    exact putL_ne _ _ _
theorem pours_len_le {n : Nat} {F : Fam} (g : GoodF n F) : (pours F).length ≤ 15 := pours_len (by have := g.tree.few; have := g.few; omega)
/-- what one entry gives -/
theorem contribOf_ok {n m D B : Nat} {h : Fam} {s : Rat2} (g : GoodF n h) (l : h.length = m + 1) (hm : 1 ≤ m) (r : RB D B s) : ∀ e, e ∈ contribOf h s → GoodF n e.1 ∧ e.1.length = m ∧ RB (D * 360360) B e.2 := by
  intro e he
  obtain ⟨p, hp, rfl⟩ := List.mem_map.mp he
  obtain ⟨h1, h2, h3⟩ := mem_pours.mp hp
  refine ⟨pour_good g h1 h2 h3, ?_, ?_⟩
  · have := pour_len h1 h2
    show (pour h p.1 p.2).length = m
    omega
  · have hpos : 0 < (pours h).length := List.length_pos_iff.mpr (List.ne_nil_of_mem hp)
    exact r.part hpos (dvd_L hpos (pours_len_le g))
theorem contrib_len {n m D B N : Nat} {L : FR} (h : OkL n m D B N L) : (contrib L).length ≤ 15 * L.length := by
  unfold contrib
  have : ∀ L : FR, (∀ e, e ∈ L → (pours e.1).length ≤ 15) → (L.flatMap fun e => contribOf e.1 e.2).length ≤ 15 * L.length := by
    intro L
    induction L with
    | nil => intro _; exact Nat.le_refl _
    | cons e L ih =>
      intro q
      rw [List.flatMap_cons, List.length_append, List.length_cons]
      have h1 := ih fun e' h' => q e' (List.mem_cons_of_mem _ h')
      have h2 := q e List.mem_cons_self
      have h3 : (contribOf e.1 e.2).length = (pours e.1).length := List.length_map ..
      omega
  exact this L fun e he => pours_len_le (h.good e he).1
def bb : Nat → Nat
  | 0 => 1
  | t + 1 => bb t * 15 ^ (t + 1)
theorem contrib_ok {n m D B N : Nat} {L : FR} (h : OkL n (m + 1) D B N L) (hm : 1 ≤ m) : ∀ e, e ∈ contrib L → GoodF n e.1 ∧ e.1.length = m ∧ RB (D * 360360) B e.2 := by
  intro e he
  obtain ⟨x, hx, he⟩ := List.mem_flatMap.mp he
  obtain ⟨h1, h2, h3⟩ := h.good x hx
  exact contribOf_ok h1 h2 hm h3 e he
theorem OkL.mono {n m D B N B' N' : Nat} {L : FR} (h : OkL n m D B N L) (hB : B ≤ B') (hN : N ≤ N') : OkL n m D B' N' L :=
  ⟨h.nd, fun e he => ⟨(h.good e he).1, (h.good e he).2.1, (h.good e he).2.2.mono (Nat.dvd_refl _) hB⟩, Nat.le_trans h.len hN⟩
theorem blind_ok {n : Nat} {F : Fam} (g : GoodF n F) : ∀ t, t < F.length → OkL n (F.length - t) (360360 ^ t) (bb t) (15 ^ t) (blind F t) ∧ blind F t ≠ [] := by
  intro t
  induction t with
  | zero =>
    intro _
    refine ⟨⟨by simp [blind], fun e he => ?_, Nat.le_refl _⟩, by simp [blind]⟩
    have : e = (F, (1, 1)) := List.mem_singleton.mp he
    subst this
    exact ⟨g, rfl, Nat.one_pos, Nat.one_dvd _, Nat.le_refl _⟩
  | succ t ih =>
    intro ht
    obtain ⟨h, hne⟩ := ih (by omega)
    have em : F.length - t = (F.length - (t + 1)) + 1 := by omega
    rw [em] at h
    have q := contrib_ok h (by omega)
    have ha := acc_ok q
    have hl := contrib_len h
    have hN := h.len
    have h15 : (contrib (blind F t)).length ≤ 15 ^ (t + 1) := by
      rw [Nat.pow_succ]
      omega
    refine ⟨?_, fold_ne ?_⟩
    · rw [Nat.pow_succ]
      show OkL n _ _ (bb t * 15 ^ (t + 1)) (15 ^ (t + 1)) _
      exact ha.mono (Nat.mul_le_mul_left _ h15) h15
    · intro z
      obtain ⟨e, he⟩ := List.exists_mem_of_ne_nil _ hne
      obtain ⟨h1, h2, _⟩ := h.good e he
      have hp := pours_some h1.tree (by omega)
      obtain ⟨p, hp⟩ := List.exists_mem_of_ne_nil _ hp
      have : (pour e.1 p.1 p.2, partOf e.1 e.2) ∈ contrib (blind F t) := List.mem_flatMap.mpr ⟨e, he, List.mem_map.mpr ⟨p, hp, rfl⟩⟩
      rw [z] at this
      cases this
/-- all numbers on the way are of moderate size -/
theorem sizes : ∀ t, t ≤ 5 → 360360 ^ (t + 1) * (bb t * (15 ^ (t + 1) * 8) + 1) < 2 ^ 900 := by
  intro t ht
  match t, ht with
  | 0, _ => decide +kernel
  | 1, _ => decide +kernel
  | 2, _ => decide +kernel
  | 3, _ => decide +kernel
  | 4, _ => decide +kernel
  | 5, _ => decide +kernel
/-! ### the dict and the list -/
theorem get_rel {H : Hp} {xs : NE} {L : FR} (h : Paired (VR H) xs L) (F : Fam) : (getN xs F = none ∧ getL L F = none) ∨ ∃ va r, getN xs F = some va ∧ getL L F = some r ∧ Tq H (.ref va) (encR r) := by
  induction h with
  | nil => exact .inl ⟨rfl, rfl⟩
  | @cons x e xs L r _ ih =>
    unfold getN getL
    rw [List.find?_cons, List.find?_cons, r.1]
    by_cases hk : e.1 = F
    · rw [decide_eq_true hk]
      exact .inr ⟨_, _, rfl, rfl, r.2⟩
    · rw [decide_eq_false hk]
      exact ih
theorem any_rel {H : Hp} {xs : NE} {L : FR} (h : Paired (VR H) xs L) (F : Fam) : (xs.any fun x => decide (x.1 = F)) = (L.any fun e => decide (e.1 = F)) := by
  induction h with
  | nil => rfl
  | @cons x e xs L r _ ih => rw [List.any_cons, List.any_cons, r.1, ih]
theorem put_rel {H : Hp} {xs : NE} {L : FR} (h : Paired (VR H) xs L) {F : Fam} {k v : Addr} {r : Rat2} (hv : Tq H (.ref v) (encR r)) : Paired (VR H) (putN xs F k v) (putL L F r) := by
  unfold putN putL
  rw [any_rel h F]
  split
  · rename_i hc
    clear hc
    induction h with
    | nil => exact .nil
    | @cons x e xs L r' _ ih =>
      rw [List.map_cons, List.map_cons]
      refine .cons ?_ ih
      rw [r'.1]
      by_cases hk : e.1 = F
      · rw [if_pos hk, if_pos hk]
        exact ⟨rfl, hv⟩
      · rw [if_neg hk, if_neg hk]
        exact r'
  · exact Paired.snoc h ⟨rfl, hv⟩
theorem DR.put {P : Program} {w : World} {H : Hp} {d k v : Addr} {o o' : Obj} {xs : NE} {L : FR} (n : DR P w H d o xs L) {F : Fam} {r : Rat2} (hk : Tq H (.ref k) (encF F)) (hv : Tq H (.ref v) (encR r)) : DR P w (upd H d (ndO P w d o' (putN xs F k v))) d o' (putN xs F k v) (putL L F r) := by
  have tt : TT H (upd H d (ndO P w d o' (putN xs F k v))) := TT.put n.nd.ob fun _ z => nomatch z
  refine ⟨⟨upd_same, fun y hy => ?_⟩, put_rel (n.rel.monoP fun a b h => ⟨h.1, h.2.mono tt⟩) (hv.mono tt)⟩
  rcases putN_mem hy with ⟨v', h⟩ | ⟨h1, h2⟩
  · exact (n.nd.ks _ h).mono tt
  · rw [h1, h2]
    exact hk.mono tt
end L2.SB
/-! The walk: poured_at, _law_pour. -/
namespace L2.SB
open PySem PySem.Spec PyProof.Rows Sb
open PySem.W (alike dataLt dataLe)
open C8 (Cal pe_c pe_gc)

abbrev s_poured_at : Stmt := top 22
abbrev s_lpour : Stmt := top 44
theorem inV2 (k i j : Nat) : inV (vN k) [vN i, vN j] = (decide (k = i) || decide (k = j)) := by
  show ((((i : Nat) : Int) == ((k : Nat) : Int)) || ((((j : Nat) : Int) == ((k : Nat) : Int)) || false)) = _
  rw [Bool.or_false]
  congr 1
  · rw [Bool.eq_iff_iff, beq_iff_eq, decide_eq_true_eq]; omega
  · rw [Bool.eq_iff_iff, beq_iff_eq, decide_eq_true_eq]; omega
theorem keys_dKv (l : List Nat) : (dKv l).map (·.1) = (l.map fun (n : Nat) => (n : Int)).map Sum.inl := by
  unfold dKv
  rw [List.map_map, List.map_map]
  rfl
theorem sortable_B {F : Fam} (h : ∀ b, b ∈ F → b ≠ []) : PySem.W.Sortable (F.map encB) := .inl fun d hd => by
  obtain ⟨b, hb, rfl⟩ := List.mem_map.mp hd
  cases b with
  | nil => exact absurd rfl (h _ hb)
  | cons x b => exact ⟨encN x, b.map encN, rfl⟩
theorem rest_mem {F : Fam} {i j : Nat} {b : Bag} (h : b ∈ rest F i j) : b ∈ F := by
  obtain ⟨k, hk, rfl⟩ := List.mem_map.mp h
  exact getD_mem (List.mem_range.mp (List.mem_filter.mp hk).1)
theorem paired_rest {H : Hp} {F : Fam} {i j : Nat} {ys : List V} (h : Paired (fun k y => ∃ b, F[k]? = some b ∧ Tq H y (encB b)) ((List.range F.length).filter fun k => !(decide (k = i) || decide (k = j))) ys) : Tqs H ys ((rest F i j).map encB) := by
  have h1 : Paired (fun k y => Tq H y (encB (F.getD k []))) ((List.range F.length).filter fun k => !(decide (k = i) || decide (k = j))) ys := h.monoP fun k y ⟨b, e, q⟩ => by rw [getD_of e]; exact q
  have h2 := paired_tqs (f := fun k => encB (F.getD k [])) h1
  unfold rest
  rw [List.map_map]
  exact h2
/-- the whole bag stands -/
theorem tq_bag {H : Hp} {a : Addr} {b : Bag} (h : H a = some (.tup (b.map vN))) : Tq H (.ref a) (encB b) := .tup h Tqs.ints
section
variable {P : Program} {w : World} {K : PySem.W.Frag} {mg : Str → Option Value} {base : Heap}
def sp_pour : Sp := fun vs H Q _ => ∃ (v : V) (F : Fam) (n i j : Nat), vs = [v, vN i, vN j] ∧ Tq H v (encF F) ∧ Tree n F ∧ n ≤ 7 ∧ i < j ∧ j < F.length ∧ ∀ v' H', Same H H' → Tq H' v' (encF (pour F i j)) → Q v' H'
theorem sc_poured_at : FnScope ["family", "one", "other", "whole", "bead", "index", "bag"] ["family", "one", "other"] (defScope s_poured_at) := ⟨rfl, rfl, rfl, by decide +kernel, rfl, by decide +kernel, by decide +kernel⟩
theorem ok_poured_at (T : Bt mg) (D : DefAt K mg "poured_at" s_poured_at ["family", "one", "other"]) : Cal P w K mg base 1 "poured_at" sp_pour [] := by
  refine cal_ok D sc_poured_at (fun vs H Q E h => ?_) (fun f cdv A outer s H vs Q E hr h => ?_)
  · obtain ⟨v, F, n, i, j, rfl, _⟩ := h
    rfl
  · obtain ⟨v, F, n, i, j, rfl, hv, ht, hn7, hij, hj, q⟩ := h
    obtain ⟨a, xs, rfl, ha, hx⟩ := hv.fam
    have hxl : xs.length = F.length := by rw [hx.len, List.length_map]
    have hfew := ht.few
    have nd := sc_poured_at.nd
    refine ⟨_, pss_cons (ps_set (i := 3) nd rfl (Or.inl rfl) (x_tuple T (x_sorted T (call_sortedDI rfl) (pe_dc (own := [("bead", 4)]) (g := gName 4) (tt := tYes) (tk := tVar 4) (tv := tC (.bl true)) (by rfl) nd (pi_tup (pe_op op_catT (x_ixT (pv 0) (pv 1) (fun _ _ => rfl)) (x_ixT (pv 0) (pv 2) (fun _ _ => rfl))))
        (blkOk_by (N := ["family", "one", "other", "whole", "bead", "index", "bag"]) (sc := defScope s_poured_at) (by decide +kernel)) (fun _ _ _ _ _ => pgn (i := 4) nd rfl rfl) (fun _ _ _ _ _ => pts_nil)
        (fun _ _ _ _ _ => pv 4) (fun _ _ _ _ _ => pe_bl)))))
      (pss_one (ps_ret (x_tuple T (x_sorted T (cr_sortD encB alike_B (fun b => Nat.le_trans (depth_B b) (by decide)) (hu10 hr)) (pe_op op_cat
        (pe_lc (own := [("index", 5), ("bag", 6)]) (g := gTup K 2 (gCons (gName 5) (gCons (gName 6) gNil))) (tt := tTest (tOp (rIn K true) (tVar 5) (tTup (tCons (tVar 1) (tCons (tVar 2) tNil))))) (te := tVar 6) (by rfl) nd (pi_enumT (by rfl) T.enumerate (pa1 (pv 0)))
          (blkOk_by (N := ["family", "one", "other", "whole", "bead", "index", "bag"]) (sc := defScope s_poured_at) (by decide +kernel)) (fun _ _ _ _ _ => pg_tup (n := 2) rfl (pgs_cons (pgn (i := 5) nd rfl rfl) (pgs_cons (pgn (i := 6) nd rfl rfl) pgs_nil)))
          (fun _ _ _ _ _ => pts_one (pt_cmpR op_notIn_seq (pv 5) (pe_tup (pa2 (pv 1) (pv 2))) (by rfl))) (fun _ _ _ _ _ => pv 6))
        (pe_lst (pa1 (pv 3)))))))), ?_⟩
    have hil : i < xs.length := by omega
    have hjl : j < xs.length := by omega
    obtain ⟨b1, hb1, hq1⟩ := hx.at (List.getElem?_eq_getElem hil)
    obtain ⟨b2, hb2, hq2⟩ := hx.at (List.getElem?_eq_getElem hjl)
    obtain ⟨a1, ea1, ha1⟩ := hq1.bag
    obtain ⟨a2, ea2, ha2⟩ := hq2.bag
    have m1 := List.mem_of_getElem? hb1
    have m2 := List.mem_of_getElem? hb2
    have l1 := Tree.len ht m1
    have l2 := Tree.len ht m2
    refine ⟨_, rfl, _, rfl, a, xs, (i : Int), .ref a1, rfl, rfl, sqT ha, at_of (j := i) rfl (by rw [← ea1]; exact List.getElem?_eq_getElem hil), ?_⟩
    refine ⟨_, rfl, _, rfl, a, xs, (j : Int), .ref a2, rfl, rfl, sqT ha, at_of (j := j) rfl (by rw [← ea2]; exact List.getElem?_eq_getElem hjl), ?_⟩
    refine ⟨a1, a2, _, _, rfl, rfl, sqT ha1, sqT ha2, fun z => ht.ne m1 (List.map_eq_nil_iff.mp z), ?_, fun z => absurd (List.map_eq_nil_iff.mp z) (ht.ne m2), fun _ p0 hp0 => ?_⟩
    · rw [List.length_map, List.length_map]
      exact Nat.le_of_lt (sz1000 (by omega))
    rw [← List.map_append]
    have s0 : Same H (upd H p0 (.tup ((b1 ++ b2).map vN))) := Same.new hp0
    refine ⟨p0, rfl, ⟨_, sqT upd_same⟩, fun D1 hD1 => ?_⟩
    refine dc_true hD1 upd_same (by rw [List.length_append]; omega) (by show 4 < 7; decide) fun H1 s1 e1 => ?_
    refine ⟨D1, _, (dd (b1 ++ b2)).map fun (n : Nat) => (n : Int), rfl, .inl e1, keys_dKv _, ?_, fun ys p1 pm pw hp1 => ?_⟩
    · have := len_dd (b1 ++ b2)
      rw [List.length_append] at this
      rw [List.length_map]
      omega
    have eys : ys = (uni b1 b2).map fun (n : Nat) => (n : Int) := by
      have nd2 : ((dd (b1 ++ b2)).map fun (n : Nat) => (n : Int)).Nodup := List.pairwise_map.mpr ((nodup_dd (b1 ++ b2)).imp fun h => by omega)
      have nd3 := pm.nodup_iff.mpr nd2
      refine uni_eq ((pw.and nd3).imp fun {x y} hh => ?_) fun k => ?_
      · have h1 := hh.1
        have h2 : x ≠ y := hh.2
        omega
      · rw [pm.mem_iff, List.mem_map]
        refine ⟨fun ⟨x, hx, e⟩ => ⟨x, List.mem_append.mp ((mem_dd _ _).mp hx), e.symm⟩, fun ⟨x, hx, e⟩ => ⟨x, (mem_dd _ _).mpr (List.mem_append.mpr hx), e.symm⟩⟩
    have ey2 : ys.map V.int = (uni b1 b2).map vN := by rw [eys, List.map_map]; rfl
    rw [ey2]
    refine ⟨p1, _, rfl, .inl ⟨sqL upd_same, fun t ht0 => ?_⟩⟩
    have s2 : Same H _ := ((s0.trans s1).trans (Same.new (o := .lst ((uni b1 b2).map vN)) hp1)).trans (Same.new (o := .tup ((uni b1 b2).map vN)) ht0)
    refine ⟨_, rfl, a, xs, rfl, sqT (s2 _ _ ha), fun D0 hD => ?_⟩
    refine lc_gen (walk_enumT (a := a) (xs := xs)) (fun k => !(decide (k = i) || decide (k = j))) (fun k y H => ∃ b, F[k]? = some b ∧ Tq H y (encB b)) hD (sz1000 (by omega)) (fun _ _ _ _ tt ⟨b, e, h⟩ => ⟨b, e, h.mono tt⟩) (fun H' s => sqT ((s2.trans s) _ _ ha)) ?_ ?_
    · rintro k x H2 H3 hi s3 ⟨T0, z1, z2, rfl, hT, rfl, ez1, ez2⟩ K0 Kf k1 k2
      have ez1 : V.int (k : Nat) = z1 := by injection ez1
      subst ez1
      obtain ⟨b, hb, hbq⟩ := hx.at ez2
      have s4 : Same H2 (upd H2 T0 (.tup [V.int (k : Nat), z2])) := Same.new hT
      refine ⟨T0, [V.int (k : Nat), z2], rfl, sqT upd_same, rfl, _, _, rfl, _, _, rfl, rfl, ?_⟩
      refine ⟨rfl, _, rfl, _, rfl, _, rfl, (by show 2 ≤ sizeLine; decide), fun T1 hT1 => ?_⟩
      have s5 := s4.trans (Same.new (o := .tup [vN i, vN j]) hT1)
      refine ⟨T1, _, rfl, .inr (sqT upd_same), rfl, rfl, _, rfl, ?_⟩
      show (if (!inV (vN k) [vN i, vN j]) = true then _ else _)
      rw [inV2]
      cases hp : (!(decide (k = i) || decide (k = j))) with
      | true => exact iteT ⟨z2, rfl, k1 hp _ _ s5 ⟨b, hb, hbq.mono ((s2.trans s3).trans s5).tt⟩⟩
      | false => exact iteF (k2 hp _ s5)
    · intro H' ys2 s3 e pr
      rw [hxl] at pr
      have hrest := paired_rest pr
      have hw : H' t = some (.tup ((uni b1 b2).map vN)) := s3 _ _ upd_same
      refine ⟨_, rfl, (by show 1 ≤ sizeLine; decide), fun l1 hl1 => ?_⟩
      have s4 : Same H' (upd H' l1 (.lst [.ref t])) := Same.new hl1
      have hlen := hrest.len
      rw [List.length_map] at hlen
      have hrl := rest_len hij hj
      refine ⟨D0, l1, ys2, [.ref t], rfl, rfl, s4 _ _ e, upd_same, Nat.le_of_lt (sz1000 (by rw [List.length_singleton]; omega)), fun l2 hl2 => ?_⟩
      have s5 := s4.trans (Same.new (o := .lst (ys2 ++ [.ref t])) hl2)
      have eb : [uni b1 b2] = [uni (F.getD i []) (F.getD j [])] := by rw [getD_of hb1, getD_of hb2]
      refine ⟨l2, _, rest F i j ++ [uni b1 b2], rfl, sqL upd_same, ?_, sortable_B fun b hb => ?_, fun ys3 p3 hq3 hp3 => ?_⟩
      · rw [List.map_append]
        exact (Tqs.mono s5.tt hrest).append (.cons (tq_bag (s5 _ _ hw)) .nil)
      · rcases List.mem_append.mp hb with hb | hb
        · exact ht.ne (rest_mem hb)
        · rw [List.mem_singleton.mp hb]
          intro z
          obtain ⟨x, hx⟩ := List.exists_mem_of_ne_nil _ (ht.ne m1)
          have := mem_uni.mpr (.inl hx : x ∈ b1 ∨ x ∈ b2)
          rw [z] at this
          cases this
      · refine ⟨p3, _, rfl, .inl ⟨sqL upd_same, fun l4 hl4 => ?_⟩⟩
        have s6 := (s5.trans (Same.new (o := .lst ys3) hp3)).trans (Same.new (o := .tup ys3) hl4)
        refine q _ _ ((s2.trans s3).trans s6) (.tup upd_same ?_)
        have e6 : pour F i j = (rest F i j ++ [uni b1 b2]).mergeSort (dataLe false encB) := by rw [eb]; rfl
        rw [e6]
        exact Tqs.mono ((TT.new (o := .lst ys3) hp3).trans (TT.new (o := .tup ys3) hl4)) hq3
end
end L2.SB
/-! The walk: _law_pour, _law_pours. -/
namespace L2.SB
open PySem PySem.Spec PyProof.Rows Sb
open PySem.W (alike dataLt dataLe)
open C8 (Cal pe_c pe_gc)
section
variable {P : Program} {w : World} {K : PySem.W.Frag} {mg : Str → Option Value} {base : Heap}
theorem sc_lpour : FnScope ["_law_family_here", "_law_one", "_law_other", "_law_rest", "_law_at"] ["_law_family_here", "_law_one", "_law_other"] (defScope s_lpour) := ⟨rfl, rfl, rfl, by decide +kernel, rfl, by decide +kernel, by decide +kernel⟩
theorem ok_lpour (T : Bt mg) (D : DefAt K mg "_law_pour" s_lpour ["_law_family_here", "_law_one", "_law_other"]) : Cal P w K mg base 1 "_law_pour" sp_pour [] := by
  refine cal_ok D sc_lpour (fun vs H Q E h => ?_) (fun f cdv A outer s H vs Q E hr h => ?_)
  · obtain ⟨v, F, n, i, j, rfl, _⟩ := h
    rfl
  · obtain ⟨v, F, n, i, j, rfl, hv, ht, hn7, hij, hj, q⟩ := h
    obtain ⟨a, xs, rfl, ha, hx⟩ := hv.fam
    have hxl : xs.length = F.length := by rw [hx.len, List.length_map]
    have hfew := ht.few
    have nd := sc_lpour.nd
    refine ⟨_, pss_cons (ps_setLc (i := 3) (own := [("_law_at", 4)]) (g := gName 4) (tt := tTest (tOp (rIn K true) (tVar 4) (tTup (tCons (tVar 1) (tCons (tVar 2) tNil))))) (te := tOp (rIxT K) (tVar 0) (tVar 4)) (by rfl) nd rfl rfl (sw_true rfl rfl rfl (by decide +kernel)) (pi_range1 (by rfl) T.range (pa1 (x_len T (pv 0))))
          (blkOk_by (N := ["_law_family_here", "_law_one", "_law_other", "_law_rest", "_law_at"]) (sc := defScope s_lpour) (by decide +kernel)) (fun _ _ _ _ _ => pgn (i := 4) nd rfl rfl)
          (fun _ _ _ _ _ => pts_one (pt_cmpR op_notIn_seq (pv 4) (pe_tup (pa2 (pv 1) (pv 2))) (by rfl))) (fun _ _ _ _ _ => x_ixT (pv 0) (pv 4) (fun _ _ => rfl)))
      (pss_one (ps_ret (x_tuple T (x_sorted T (cr_sortD encB alike_B (fun b => Nat.le_trans (depth_B b) (by decide)) (hu10 hr)) (pe_op op_cat (pv 3)
        (pe_lst (pa1 (x_tuple T (x_sorted T (cr_sortedSet rfl) (x_set T rfl (pe_op op_catT (x_ixT (pv 0) (pv 1) (fun _ _ => rfl)) (x_ixT (pv 0) (pv 2) (fun _ _ => rfl))))))))))))), ?_⟩
    have hil : i < xs.length := by omega
    have hjl : j < xs.length := by omega
    obtain ⟨b1, hb1, hq1⟩ := hx.at (List.getElem?_eq_getElem hil)
    obtain ⟨b2, hb2, hq2⟩ := hx.at (List.getElem?_eq_getElem hjl)
    obtain ⟨a1, ea1, ha1⟩ := hq1.bag
    obtain ⟨a2, ea2, ha2⟩ := hq2.bag
    have m1 := List.mem_of_getElem? hb1
    have m2 := List.mem_of_getElem? hb2
    have l1 := Tree.len ht m1
    have l2 := Tree.len ht m2
    refine ⟨_, rfl, a, xs, rfl, .inr (sqT ha), (xs.length : Int), rfl, by omega, by omega, fun D0 hD => ?_⟩
    refine lc_gen (walk_range (lo := 0) (n := xs.length)) (fun k => !(decide (k = i) || decide (k = j))) (fun k y H => ∃ b, F[k]? = some b ∧ Tq H y (encB b)) hD (sz1000 (by omega)) (fun _ _ _ _ tt ⟨b, e, h⟩ => ⟨b, e, h.mono tt⟩) (fun _ _ => True.intro) ?_ ?_
    · rintro k x H2 H3 hi s3 ⟨rfl, rfl⟩ K0 Kf k1 k2
      obtain ⟨b, hb, hbq⟩ := hx.at (List.getElem?_eq_getElem hi)
      have e0 : V.int (0 + (k : Int)) = vN k := by rw [Int.zero_add]
      refine ⟨rfl, _, rfl, _, rfl, _, rfl, (by show 2 ≤ sizeLine; decide), fun T1 hT1 => ?_⟩
      have s5 : Same H3 (upd H3 T1 (.tup [vN i, vN j])) := Same.new hT1
      refine ⟨T1, _, rfl, .inr (sqT upd_same), rfl, rfl, _, rfl, ?_⟩
      show (if (!inV (V.int (0 + (k : Int))) [vN i, vN j]) = true then _ else _)
      rw [e0, inV2]
      cases hp : (!(decide (k = i) || decide (k = j))) with
      | true => exact iteT ⟨_, rfl, _, rfl, a, xs, (k : Int), xs[k], rfl, e0, sqT ((s3.trans s5) _ _ ha), at_of (j := k) rfl (List.getElem?_eq_getElem hi), k1 hp _ _ s5 ⟨b, hb, hbq.mono (s3.trans s5).tt⟩⟩
      | false => exact iteF (k2 hp _ s5)
    · intro H' ys2 s3 e pr
      rw [hxl] at pr
      have hrest := paired_rest pr
      have hlen := hrest.len
      rw [List.length_map] at hlen
      have hrl := rest_len hij hj
      refine ⟨_, rfl, ?_⟩
      refine ⟨_, rfl, _, rfl, a, xs, (i : Int), .ref a1, rfl, rfl, sqT (s3 _ _ ha), at_of (j := i) rfl (by rw [← ea1]; exact List.getElem?_eq_getElem hil), ?_⟩
      refine ⟨_, rfl, _, rfl, a, xs, (j : Int), .ref a2, rfl, rfl, sqT (s3 _ _ ha), at_of (j := j) rfl (by rw [← ea2]; exact List.getElem?_eq_getElem hjl), ?_⟩
      refine ⟨a1, a2, _, _, rfl, rfl, sqT (s3 _ _ ha1), sqT (s3 _ _ ha2), fun z => ht.ne m1 (List.map_eq_nil_iff.mp z), ?_, fun z => absurd (List.map_eq_nil_iff.mp z) (ht.ne m2), fun _ p0 hp0 => ?_⟩
      · rw [List.length_map, List.length_map]
        exact Nat.le_of_lt (sz1000 (by omega))
      rw [← List.map_append]
      have s0 : Same H' (upd H' p0 (.tup ((b1 ++ b2).map vN))) := Same.new hp0
      refine ⟨p0, (b1 ++ b2).map fun (n : Nat) => (n : Int), rfl, sqT (by rw [upd_same, List.map_map]; rfl), by rw [List.length_map, List.length_append]; omega, fun S0 c hS0 hc => ?_⟩
      rw [List.length_map, List.length_append] at hc
      refine ⟨S0, _, c, rfl, upd_same, by omega, fun ys p1 pw mem _ hp1 => ?_⟩
      have s1 := (s0.trans (Same.new (o := SetO w S0 (fun j => decide (j ∈ (b1 ++ b2).map fun (n : Nat) => (n : Int))) c) hS0)).trans (Same.new (o := .lst (ys.map V.int)) hp1)
      have eys : ys = (uni b1 b2).map fun (n : Nat) => (n : Int) := by
        refine uni_eq pw fun k => ?_
        rw [mem, decide_eq_true_eq, List.mem_map]
        refine ⟨fun ⟨x, hx, e⟩ => ⟨x, List.mem_append.mp hx, e.symm⟩, fun ⟨x, hx, e⟩ => ⟨x, List.mem_append.mpr hx, e.symm⟩⟩
      have ey2 : ys.map V.int = (uni b1 b2).map vN := by rw [eys, List.map_map]; rfl
      refine ⟨p1, _, rfl, .inl ⟨sqL upd_same, fun t ht0 => ?_⟩⟩
      have s2 := s1.trans (Same.new (o := .tup (ys.map V.int)) ht0)
      refine ⟨(by show 1 ≤ sizeLine; decide), fun l1 hl1 => ?_⟩
      have s4 := s2.trans (Same.new (o := .lst [.ref t]) hl1)
      have hw := ((Same.new (o := .lst [.ref t]) hl1) _ _ upd_same : _ = some (HO.tup (ys.map V.int)))
      refine ⟨D0, l1, ys2, [.ref t], rfl, rfl, s4 _ _ e, upd_same, Nat.le_of_lt (sz1000 (by rw [List.length_singleton]; omega)), fun l2 hl2 => ?_⟩
      have s5 := s4.trans (Same.new (o := .lst (ys2 ++ [.ref t])) hl2)
      have eb : [uni b1 b2] = [uni (F.getD i []) (F.getD j [])] := by rw [getD_of hb1, getD_of hb2]
      refine ⟨l2, _, rest F i j ++ [uni b1 b2], rfl, sqL upd_same, ?_, sortable_B fun b hb => ?_, fun ys3 p3 hq3 hp3 => ?_⟩
      · have em : (rest F i j ++ [uni b1 b2]).map encB = (rest F i j).map encB ++ [encB (uni b1 b2)] := List.map_append
        rw [em]
        refine (Tqs.mono s5.tt hrest).append (.cons (tq_bag ?_) .nil)
        rw [← ey2]
        exact (Same.new (o := .lst (ys2 ++ [.ref t])) hl2) _ _ hw
      · rcases List.mem_append.mp hb with hb | hb
        · exact ht.ne (rest_mem hb)
        · rw [List.mem_singleton.mp hb]
          intro z
          obtain ⟨x, hx⟩ := List.exists_mem_of_ne_nil _ (ht.ne m1)
          have := mem_uni.mpr (.inl hx : x ∈ b1 ∨ x ∈ b2)
          rw [z] at this
          cases this
      · refine ⟨p3, _, rfl, .inl ⟨sqL upd_same, fun l4 hl4 => ?_⟩⟩
        have s6 := (s5.trans (Same.new (o := .lst ys3) hp3)).trans (Same.new (o := .tup ys3) hl4)
        refine q _ _ (s3.trans s6) (.tup upd_same ?_)
        have e6 : pour F i j = (rest F i j ++ [uni b1 b2]).mergeSort (dataLe false encB) := by rw [eb]; rfl
        rw [e6]
        exact Tqs.mono ((TT.new (o := .lst ys3) hp3).trans (TT.new (o := .tup ys3) hl4)) hq3
end
end L2.SB
/-! The pairs, found bead by bead: plain; a walk in general. -/
namespace L2.SB
open PySem PySem.Spec PyProof.Rows Sb
open PySem.W (alike dataLt dataLe)
/-- a walk with any body -/
theorem it_gen {J : It} {n : Nat} {G : Hp → Prop} {Y : Nat → Hp → V → Hp → Prop} (w : Walk J n G Y) {B : V → Hp → (Hp → Prop) → Prop} {H0 : Hp} {Qd : Hp → Prop} (Pv : Nat → Hp → Prop) (h0 : Pv 0 H0) (hG : ∀ i H, i ≤ n → Pv i H → G H)
    (hs : ∀ i x H H', i < n → Pv i H → Y i H x H' → B x H' (Pv (i + 1))) (hd : ∀ H, Pv n H → Qd H) :
    ∃ W : Nat → Nat → Hp → Prop, (∃ m, W 0 m H0) ∧ ∀ i m H, W i m H →
      (J.stop i H ∧ Qd H) ∨ (J.go i H ∧ ∃ Nx : Hp → Prop, (∀ H', Nx H' → ∃ m', m' < m ∧ W (i + 1) m' H') ∧ ∀ x H', J.yld i H x H' → B x H' Nx) := by
  refine ⟨fun i m H => m = n - i ∧ i ≤ n ∧ Pv i H, ⟨n, by simp, Nat.zero_le _, h0⟩, ?_⟩
  rintro i m H ⟨rfl, hi, p⟩
  have q := hG i H hi p
  by_cases hlt : i < n
  · exact .inr ⟨w.goes i H hlt q, Pv (i + 1), fun H' p' => ⟨n - (i + 1), by omega, rfl, hlt, p'⟩, fun x H' y => hs i x H H' hlt p (w.yields i H x H' hlt q y)⟩
  · have e : i = n := by omega
    subst e
    exact .inl ⟨w.stops H q, hd H p⟩
def rowP (l : List Nat) (i : Nat) : List (Nat × Nat) := (l.filter fun j => decide (i < j)).map fun j => (i, j)
def pairsAt (l : List Nat) : List (Nat × Nat) := l.flatMap (rowP l)
theorem mem_pairsAt {l : List Nat} {p : Nat × Nat} : p ∈ pairsAt l ↔ p.1 ∈ l ∧ p.2 ∈ l ∧ p.1 < p.2 := by
  unfold pairsAt rowP
  rw [List.mem_flatMap]
  constructor
  · rintro ⟨i, hi, h⟩
    obtain ⟨j, hj, rfl⟩ := List.mem_map.mp h
    rw [List.mem_filter, decide_eq_true_eq] at hj
    exact ⟨hi, hj.1, hj.2⟩
  · rintro ⟨h1, h2, h3⟩
    exact ⟨p.1, h1, List.mem_map.mpr ⟨p.2, List.mem_filter.mpr ⟨h2, decide_eq_true h3⟩, rfl⟩⟩
theorem pairsAt_nodup {l : List Nat} (nd : l.Nodup) : (pairsAt l).Nodup := by
  unfold pairsAt
  refine List.pairwise_flatMap.mpr ⟨fun i _ => ?_, nd.imp fun {i j} hij p hp q hq e => ?_⟩
  · unfold rowP
    refine List.pairwise_map.mpr ((nd.filter _).imp fun {a b} hab e => hab ?_)
    injection e
  · obtain ⟨_, _, rfl⟩ := List.mem_map.mp hp
    obtain ⟨_, _, rfl⟩ := List.mem_map.mp hq
    injection e with e
    exact hij e
theorem hom_nodup (F : Fam) (x : Nat) : (hom F x).Nodup := List.nodup_range.filter _
theorem mem_getD {F : Fam} {i x : Nat} (h : x ∈ F.getD i []) : ∃ b, F[i]? = some b ∧ x ∈ b := by
  rw [List.getD_eq_getElem?_getD] at h
  cases e : F[i]? with
  | none => rw [e] at h; cases h
  | some b => rw [e] at h; exact ⟨b, rfl, h⟩
theorem pairs_perm {n : Nat} {F : Fam} (t : Tree n F) : ((List.range n).flatMap fun x => pairsAt (hom F x)).Perm (pours F) := by
  refine (List.perm_ext_iff_of_nodup (List.pairwise_flatMap.mpr ⟨fun x _ => pairsAt_nodup (hom_nodup F x), List.pairwise_lt_range.imp fun {x y} hxy p hp q hq e => ?_⟩) (pours_nodup F)).mpr fun p => ?_
  · subst e
    obtain ⟨h1, h2, h3⟩ := mem_pairsAt.mp hp
    obtain ⟨k1, k2, _⟩ := mem_pairsAt.mp hq
    obtain ⟨b, e1, m1⟩ := mem_getD (mem_hom.mp h1).2
    obtain ⟨c, e2, m2⟩ := mem_getD (mem_hom.mp h2).2
    obtain ⟨b', e3, m3⟩ := mem_getD (mem_hom.mp k1).2
    obtain ⟨c', e4, m4⟩ := mem_getD (mem_hom.mp k2).2
    rw [e1] at e3
    rw [e2] at e4
    cases e3
    cases e4
    have := t.lin e1 e2 (by omega) m1 m2 m3 m4
    omega
  · rw [List.mem_flatMap, mem_pours]
    constructor
    · rintro ⟨x, hx, h⟩
      obtain ⟨h1, h2, h3⟩ := mem_pairsAt.mp h
      have h1 := mem_hom.mp h1
      have h2 := mem_hom.mp h2
      exact ⟨h3, h2.1, List.any_eq_true.mpr ⟨x, h1.2, decide_eq_true h2.2⟩⟩
    · rintro ⟨h1, h2, h3⟩
      obtain ⟨x, hx, hx2⟩ := List.any_eq_true.mp h3
      have hx2 := of_decide_eq_true hx2
      refine ⟨x, ?_, mem_pairsAt.mpr ⟨mem_hom.mpr ⟨by omega, hx⟩, mem_hom.mpr ⟨h2, hx2⟩, h1⟩⟩
      obtain ⟨b, e1, m1⟩ := mem_getD hx
      exact List.mem_range.mpr (t.lt b (List.mem_of_getElem? e1) x m1)
theorem rowP_len (l : List Nat) (i : Nat) : (rowP l i).length ≤ l.length := by
  unfold rowP
  rw [List.length_map]
  exact List.length_filter_le _ _
theorem flatMap_len {α β : Type} (f : α → List β) (m : Nat) : ∀ (l : List α), (∀ a, a ∈ l → (f a).length ≤ m) → (l.flatMap f).length ≤ l.length * m
  | [], _ => by simp
  | a :: l, h => by
    have h1 := flatMap_len f m l fun b hb => h b (List.mem_cons_of_mem _ hb)
    have h2 := h a List.mem_cons_self
    rw [List.flatMap_cons, List.length_append, List.length_cons, Nat.succ_mul]
    omega
theorem pairsAt_len (l : List Nat) : (pairsAt l).length ≤ l.length * l.length := flatMap_len _ _ _ fun _ _ => rowP_len _ _
/-- a prefix of a row -/
def rowTo (l : List Nat) (i j : Nat) : List (Nat × Nat) := ((l.take j).filter fun k => decide (i < k)).map fun k => (i, k)
theorem rowTo_next {l : List Nat} {i j k : Nat} (h : l[j]? = some k) : rowTo l i (j + 1) = rowTo l i j ++ if i < k then [(i, k)] else [] := by
  unfold rowTo
  rw [List.take_add_one, h, List.filter_append, List.map_append]
  congr 1
  by_cases hk : i < k
  · simp [hk]
  · simp [hk]
theorem rowTo_end (l : List Nat) (i : Nat) : rowTo l i l.length = rowP l i := by
  unfold rowTo rowP
  rw [List.take_length]
theorem rowTo_len (l : List Nat) (i j : Nat) : (rowTo l i j).length ≤ l.length := by
  unfold rowTo
  rw [List.length_map]
  refine Nat.le_trans (List.length_filter_le _ _) ?_
  rw [List.length_take]
  omega
theorem flatTake {α β : Type} (f : α → List β) {l : List α} {i : Nat} {a : α} (h : l[i]? = some a) : (l.take (i + 1)).flatMap f = (l.take i).flatMap f ++ f a := by
  rw [List.take_add_one, h, List.flatMap_append]
  simp
/-- the law's way -/
def toP (F : Fam) (i m : Nat) : List (Nat × Nat) := ((List.range m).filter fun j => decide (i < j) && shares F i j).map fun j => (i, j)
theorem toP_next (F : Fam) (i m : Nat) : toP F i (m + 1) = toP F i m ++ if (decide (i < m) && shares F i m) = true then [(i, m)] else [] := by
  unfold toP
  rw [filter_range_succ, List.map_append]
  congr 1
  split <;> rfl
theorem toP_start (F : Fam) (i : Nat) : toP F i (i + 1) = [] := by
  unfold toP
  rw [List.map_eq_nil_iff, List.filter_eq_nil_iff]
  intro j hj
  have := List.mem_range.mp hj
  rw [decide_eq_false (by omega), Bool.false_and]
  exact Bool.false_ne_true
theorem toP_len (F : Fam) (i m : Nat) : (toP F i m).length ≤ m := by
  unfold toP
  rw [List.length_map]
  exact filter_range_len _ _
theorem shares_filter (F : Fam) (i j : Nat) : (!((F.getD i []).filter fun x => decide (x ∈ F.getD j [])).isEmpty) = shares F i j := by
  unfold shares
  generalize F.getD i [] = b
  induction b with
  | nil => rfl
  | cons x b ih =>
    rw [List.any_cons]
    by_cases h : x ∈ F.getD j []
    · rw [List.filter_cons_of_pos (p := fun x => decide (x ∈ F.getD j [])) (decide_eq_true h), decide_eq_true h]
      rfl
    · rw [List.filter_cons_of_neg (p := fun x => decide (x ∈ F.getD j [])) (by rw [decide_eq_true_eq]; exact h), ih, decide_eq_false h]
      rfl
theorem inV_ints (x : Nat) (b : Bag) : inV (vN x) (b.map vN) = decide (x ∈ b) := by
  unfold inV
  rw [List.any_map]
  induction b with
  | nil => rfl
  | cons y b ih =>
    rw [List.any_cons, ih]
    have e : ((fun y => eqV y (vN x)) ∘ vN) y = decide (x = y) := by
      show ((((y : Nat) : Int) == ((x : Nat) : Int)) : Bool) = _
      rw [Bool.eq_iff_iff, beq_iff_eq, decide_eq_true_eq]
      omega
    rw [e]
    by_cases h1 : x = y <;> by_cases h2 : x ∈ b <;> simp [h1, h2]
theorem flat_ints (b : Bag) : (b.map vN).all flatV = true := by
  rw [List.all_map, List.all_eq_true]
  intro _ _
  rfl
end L2.SB
/-! The walk: pairs_of, _law_pours. -/
namespace L2.SB
open PySem PySem.Spec PyProof.Rows Sb
open PySem.W (alike dataLt dataLe)
open C8 (Cal pe_c pe_gc)

abbrev s_pairs_of : Stmt := top 23
abbrev s_lpours : Stmt := top 43
theorem tq_pair {H : Hp} {a : Addr} {i j : Nat} (h : H a = some (.tup [vN i, vN j])) : Tq H (.ref a) (encP (i, j)) := .tup h (.cons (.int _) (.cons (.int _) .nil))
theorem sortable_P (l : List (Nat × Nat)) : PySem.W.Sortable (l.map encP) := .inl fun d hd => by
  obtain ⟨p, _, rfl⟩ := List.mem_map.mp hd
  exact ⟨_, _, rfl⟩
section
variable {P : Program} {w : World} {K : PySem.W.Frag} {mg : Str → Option Value} {base : Heap}
def sp_pours : Sp := fun vs H Q _ => ∃ (v : V) (F : Fam) (n : Nat), vs = [v] ∧ Tq H v (encF F) ∧ Tree n F ∧ n ≤ 7 ∧ ∀ p ys H', Same H H' → H' p = some (.lst ys) → Tqs H' ys ((pours F).map encP) → Q (.ref p) H'
theorem sc_pairs_of : FnScope ["family", "found", "told", "one", "other"] ["family"] (defScope s_pairs_of) := ⟨rfl, rfl, rfl, by decide +kernel, rfl, by decide +kernel, by decide +kernel⟩
theorem ok_pairs_of (T : Bt mg) (C : Cal P w K mg base 2 "homes_of" sp_homes_of []) (D : DefAt K mg "pairs_of" s_pairs_of ["family"]) : Cal P w K mg base 3 "pairs_of" sp_pours [] := by
  refine cal_ok D sc_pairs_of (fun vs H Q E h => ?_) (fun f cdv A outer s H vs Q E hr h => ?_)
  · obtain ⟨v, F, n, rfl, _⟩ := h
    rfl
  · obtain ⟨v, F, n, rfl, hv, ht, hn7, q⟩ := h
    have hfew := ht.few
    have nd := sc_pairs_of.nd
    refine ⟨_, pss_cons (ps_set (i := 1) nd rfl (Or.inl rfl) (pe_lst pa_nil))
      (pss_cons (ps_for PassesOwn.never rfl (pi_list (pe_c C hr (by decide) (by rfl) (pa1 (pv 0)))) (pg_name (i := 2) nd rfl (Or.inr rfl))
        (pss_one (ps_set (i := 1) nd rfl (Or.inl rfl) (pe_op op_cat (pv 1)
          (pe_lc2 (own := [("one", 3), ("other", 4)]) (vs1 := [4]) (g := gName 3) (tt := tYes) (wi1 := iList K (tVar 2)) (g1 := gName 4) (tt1 := tB (tLt (tVar 3) (tVar 4))) (te := tTup (tCons (tVar 3) (tCons (tVar 4) tNil))) (by rfl) nd (pi_list (pv 2))
            (blkOk_by (N := ["family", "found", "told", "one", "other"]) (sc := defScope s_pairs_of) (by decide +kernel)) (by decide) (fun _ _ _ _ _ => pgn (i := 3) nd rfl rfl) (fun _ _ _ _ _ => pts_nil)
            (fun _ _ _ _ _ => pi_list (pv 2)) (fun _ _ _ _ _ => pgn (i := 4) nd rfl rfl) (fun _ _ _ _ _ => pts_one (pt_cmp (pc_lt (pv 3) (pv 4)))) (fun _ _ _ _ _ => pe_tup (pa2 (pv 3) (pv 4))))))))
      (pss_one (ps_ret (x_sorted T (cr_sortD encP alike_P depth_P (hu10 hr)) (pv 1))))), ?_⟩
    refine ⟨(by show 0 ≤ sizeLine; decide), fun l0 hl0 => ?_⟩
    have s0 : Same H (upd H l0 (.lst [])) := Same.new hl0
    refine ⟨_, rfl, _, F, n, rfl, hv.mono s0.tt, ht, by omega, fun p as H1 L hl => ?_⟩
    refine ⟨p, rfl, ⟨_, sqL L.top⟩, ?_⟩
    have sL := s0.trans L.same
    refine for_it (walk_list (xs := as.map V.ref)) (fun x σ H2 => ∃ fa ys y2 y3 y4, σ = [some v, some (.ref fa), y2, y3, y4] ∧ Same H1 H2 ∧ H2 fa = some (.lst ys) ∧ Tqs H2 ys (((List.range x).flatMap fun x => pairsAt (hom F x)).map encP)) ⟨l0, [], _, _, _, rfl, Same.refl _, L.same _ _ upd_same, .nil⟩ (fun x σ H2 _ h => by
      obtain ⟨_, _, _, _, _, _, s, _⟩ := h
      exact sqL (s _ _ L.top)) ?_ ?_
    · rintro x z σ H2 H3 hi ⟨fa, ys, y2, y3, y4, rfl, s2, hfa, hys⟩ ⟨rfl, ez⟩
      rw [List.getElem?_map] at ez
      obtain ⟨g, hg, rfl⟩ := Option.map_eq_some_iff.mp ez
      have hgl := s2 _ _ (L.el x g hg)
      generalize hh : hom F x = h at hgl
      have hhl : h.length ≤ F.length := by rw [← hh]; exact hom_len F x
      have hxn : x < n := by rw [← hl]; exact (List.getElem?_eq_some_iff.mp hg).1
      refine ⟨_, rfl, ?_⟩
      refine ⟨_, rfl, g, rfl, ⟨_, sqL hgl⟩, fun D0 hD => ?_⟩
      -- the comprehension over pairs
      refine it_gen (walk_list (xs := h.map vN)) (fun i H4 => Same H3 H4 ∧ ∃ zs, H4 D0 = some (.lst zs) ∧ Tqs H4 zs (((h.take i).flatMap (rowP h)).map encP)) ⟨Same.new hD, [], upd_same, .nil⟩ (fun i H4 _ k => sqL (k.1 _ _ hgl)) ?_ ?_
      · rintro i z H4 H5 hi ⟨s4, zs, e4, q4⟩ ⟨rfl, ei⟩
        rw [List.getElem?_map] at ei
        obtain ⟨b, hb, rfl⟩ := Option.map_eq_some_iff.mp ei
        refine ⟨rfl, ?_⟩
        refine ⟨_, rfl, g, rfl, ⟨_, sqL (s4 _ _ hgl)⟩, ?_⟩
        refine it_gen (walk_list (xs := h.map vN)) (fun j H6 => Same H3 H6 ∧ ∃ zs, H6 D0 = some (.lst zs) ∧ Tqs H6 zs (((h.take i).flatMap (rowP h) ++ rowTo h b j).map encP)) ⟨s4, zs, e4, ?_⟩ (fun i H4 _ k => sqL (k.1 _ _ hgl)) ?_ ?_
        · have : rowTo h b 0 = [] := rfl
          rw [this, List.append_nil]
          exact q4
        · rintro j z H6 H7 hj ⟨s6, zs6, e6, q6⟩ ⟨rfl, ej⟩
          rw [List.getElem?_map] at ej
          obtain ⟨c, hc, rfl⟩ := Option.map_eq_some_iff.mp ej
          refine ⟨rfl, _, rfl, _, rfl, _, _, rfl, rfl, _, rfl, ?_⟩
          by_cases hbc : b < c
          · refine iteDT (by omega) ⟨_, rfl, _, rfl, (by show 2 ≤ sizeLine; decide), fun t ht0 => ?_⟩
            have s7 := Same.new (o := .tup [vN b, vN c]) ht0
            have hl6 := q6.len
            rw [List.length_map, List.length_append] at hl6
            have hl7 := flatMap_len (rowP h) h.length (h.take i) fun _ _ => rowP_len h _
            have hl8 := rowTo_len h b j
            have hl9 : (h.take i).length ≤ h.length := by rw [List.length_take]; omega
            have hl10 : (h.take i).length * h.length ≤ 6 * 6 := Nat.mul_le_mul (by omega) (by omega)
            have tt : TT H7 (upd (upd H7 t (.tup [vN b, vN c])) D0 (.lst (zs6 ++ [.ref t]))) := s7.tt.trans (TT.put (s7 _ _ e6) fun _ z => nomatch z)
            refine ⟨zs6, s7 _ _ e6, sz1000 (by omega), fun o u eo => ?_, _, upd_same, ?_⟩
            · rw [upd_ne (ne_of_none eo hD)]
              exact s7 _ _ (s6 _ _ eo)
            · rw [rowTo_next hc, if_pos hbc, ← List.append_assoc, List.map_append (l₂ := [(b, c)])]
              exact (Tqs.mono tt q6).append (.cons (tq_pair (by rw [upd_ne (ne_of_none e6 ht0).symm, upd_same])) .nil)
          · refine iteDF (by omega) ⟨s6, zs6, e6, ?_⟩
            rw [rowTo_next hc, if_neg hbc, List.append_nil]
            exact q6
        · rintro H6 ⟨s6, zs6, e6, q6⟩
          refine ⟨s6, zs6, e6, ?_⟩
          rw [flatTake _ hb, ← rowTo_end]
          rw [List.length_map] at q6
          exact q6
      · rintro H4 ⟨s4, zs, e4, q4⟩
        rw [List.length_map, List.take_length] at q4
        have hl4 := q4.len
        rw [List.length_map] at hl4
        have hl5 : (pairsAt h).length ≤ 36 := Nat.le_trans (pairsAt_len h) (Nat.mul_le_mul (show h.length ≤ 6 by omega) (show h.length ≤ 6 by omega))
        have hl6 := hys.len
        rw [List.length_map] at hl6
        have hl7 := flatMap_len (fun x => pairsAt (hom F x)) 36 (List.range x) fun y _ => Nat.le_trans (pairsAt_len _) (Nat.mul_le_mul (show (hom F y).length ≤ 6 by have := hom_len F y; omega) (show (hom F y).length ≤ 6 by have := hom_len F y; omega))
        rw [List.length_range] at hl7
        have hl8 : zs.length = (pairsAt h).length := hl4
        refine ⟨fa, D0, ys, zs, rfl, rfl, s4 _ _ hfa, e4, Nat.le_of_lt (sz1000 (by omega)), fun l1 hl1 => ?_⟩
        have s5 : Same H4 (upd H4 l1 (.lst (ys ++ zs))) := Same.new hl1
        refine ⟨l1, ys ++ zs, _, _, _, rfl, (s2.trans s4).trans s5, upd_same, ?_⟩
        rw [List.range_succ, List.flatMap_append, List.map_append, List.flatMap_cons, List.flatMap_nil, List.append_nil]
        have q5 : Tqs H4 zs ((pairsAt (hom F x)).map encP) := by rw [hh]; exact q4
        exact (Tqs.mono (s4.trans s5).tt hys).append (Tqs.mono s5.tt q5)
    · rintro σ H2 ⟨fa, ys, y2, y3, y4, rfl, s2, hfa, hys⟩
      rw [List.length_map, hl] at hys
      refine ⟨_, rfl, fa, ys, _, rfl, sqL hfa, hys, sortable_P _, fun ys3 p3 hq3 hp3 => ?_⟩
      rw [pours_sort (pairs_perm ht)] at hq3
      have s3 : Same H2 (upd H2 p3 (.lst ys3)) := Same.new hp3
      exact q p3 ys3 _ ((sL.trans s2).trans s3) upd_same (Tqs.mono s3.tt hq3)

theorem sc_lpours : FnScope ["_law_family_here", "_law_found", "_law_one", "_law_other", "_law_bead"] ["_law_family_here"] (defScope s_lpours) := ⟨rfl, rfl, rfl, by decide +kernel, rfl, by decide +kernel, by decide +kernel⟩
theorem ok_lpours (T : Bt mg) (D : DefAt K mg "_law_pours" s_lpours ["_law_family_here"]) : Cal P w K mg base 1 "_law_pours" sp_pours [] := by
  refine cal_ok D sc_lpours (fun vs H Q E h => ?_) (fun f cdv A outer s H vs Q E hr h => ?_)
  · obtain ⟨v, F, n, rfl, _⟩ := h
    rfl
  · obtain ⟨v, F, n, rfl, hv, ht, hn7, q⟩ := h
    have hfew := ht.few
    have nd := sc_lpours.nd
    obtain ⟨a, xs, rfl, ha, hx⟩ := hv.fam
    have hxl : xs.length = F.length := by rw [hx.len, List.length_map]
    refine ⟨_, pss_cons (ps_set (i := 1) nd rfl (Or.inl rfl) (pe_lst pa_nil))
      (pss_cons (ps_for PassesOwn.never rfl (pi_range1 (by rfl) T.range (pa1 (x_len T (pv 0)))) (pg_name (i := 2) nd rfl (Or.inl rfl))
        (pss_one (ps_for PassesOwn.never rfl (pi_range2 (by rfl) T.range (pa2 (pe_op op_add (pv 2) pe_int) (x_len T (pv 0)))) (pg_name (i := 3) nd rfl (Or.inr rfl))
          (pss_one (ps_if (pt_cmpR (op_ne0 (hu64 hr)) (pe_lc (own := [("_law_bead", 4)]) (g := gName 4) (tt := tTest (tOp (rIn K false) (tVar 4) (tOp (rIxT K) (tVar 0) (tVar 3)))) (te := tVar 4) (by rfl) nd (pi_tup (x_ixT (pv 0) (pv 2) (fun _ _ => rfl)))
              (blkOk_by (N := ["_law_family_here", "_law_found", "_law_one", "_law_other", "_law_bead"]) (sc := defScope s_lpours) (by decide +kernel)) (fun _ _ _ _ _ => pgn (i := 4) nd rfl rfl)
              (fun _ _ _ _ _ => pts_one (pt_cmpR op_in_seq (pv 4) (x_ixT (pv 0) (pv 3) (fun _ _ => rfl)) (by rfl))) (fun _ _ _ _ _ => pv 4)) (pe_lst pa_nil) (nomark _))
            (pss_one (ps_expr (x_append (pv 1) (pe_tup (pa2 (pv 2) (pv 3)))))) pss_nil)))))
      (pss_one (ps_ret (pv 1)))), ?_⟩
    refine ⟨(by show 0 ≤ sizeLine; decide), fun l0 hl0 => ?_⟩
    have s0 : Same H (upd H l0 (.lst [])) := Same.new hl0
    refine ⟨_, rfl, a, xs, rfl, .inr (sqT (s0 _ _ ha)), (xs.length : Int), rfl, by omega, by omega, ?_⟩
    refine for_it (walk_range (lo := 0) (n := xs.length)) (fun i σ H1 => ∃ ys y2 y3 y4, σ = [some (.ref a), some (.ref l0), y2, y3, y4] ∧ Same H H1 ∧ H1 l0 = some (.lst ys) ∧ Tqs H1 ys (((List.range i).flatMap (poursAt F)).map encP)) ⟨[], _, _, _, rfl, s0, upd_same, .nil⟩ (fun _ _ _ _ _ => True.intro) ?_ ?_
    · rintro i z σ H1 H2 hi ⟨ys, y2, y3, y4, rfl, s1, hl1, hys⟩ ⟨rfl, rfl⟩
      have e0 : V.int (0 + (i : Int)) = vN i := by rw [Int.zero_add]
      obtain ⟨b, hb, hbq⟩ := hx.at (List.getElem?_eq_getElem hi)
      obtain ⟨c, ec, hc⟩ := hbq.bag
      have hbm := List.mem_of_getElem? hb
      refine ⟨_, rfl, _, _, rfl, rfl, _, rfl, a, xs, rfl, .inr (sqT (s1 _ _ ha)), (0 + (i : Int) + 1), (xs.length : Int), rfl, ⟨by omega, by omega, by omega, by omega⟩, ?_⟩
      refine for_it (walk_range (lo := 0 + (i : Int) + 1) (n := ((xs.length : Int) - (0 + (i : Int) + 1)).toNat)) (fun t σ H3 => ∃ ys y3 y4, σ = [some (.ref a), some (.ref l0), some (V.int (0 + (i : Int))), y3, y4] ∧ Same H H3 ∧ H3 l0 = some (.lst ys) ∧ Tqs H3 ys (((List.range i).flatMap (poursAt F) ++ toP F i (i + 1 + t)).map encP))
        ⟨ys, _, _, rfl, s1, hl1, by rw [Nat.add_zero, toP_start, List.append_nil]; exact hys⟩ (fun _ _ _ _ _ => True.intro) ?_ ?_
      · rintro t z σ H3 H4 ht5 ⟨ys, y3, y4, rfl, s3, hl3, hys⟩ ⟨rfl, rfl⟩
        have hj : i + 1 + t < xs.length := by omega
        have e1 : V.int (0 + (i : Int) + 1 + (t : Int)) = vN (i + 1 + t) := by
          have : (0 + (i : Int) + 1 + (t : Int)) = ((i + 1 + t : Nat) : Int) := by omega
          rw [this]
        generalize hJ : i + 1 + t = j at hj e1
        obtain ⟨b2, hb2, hbq2⟩ := hx.at (List.getElem?_eq_getElem hj)
        obtain ⟨c2, ec2, hc2⟩ := hbq2.bag
        have hbl := Tree.len ht hbm
        refine ⟨_, rfl, _, rfl, a, xs, (i : Int), .ref c, rfl, e0, sqT (s3 _ _ ha), at_of (j := i) rfl (by rw [← ec]; exact List.getElem?_eq_getElem hi), c, rfl, ⟨_, sqT (s3 _ _ hc)⟩, fun D0 hD => ?_⟩
        refine lc_gen (walk_tup (xs := b.map vN)) (fun k => (b[k]?).any fun x => decide (x ∈ b2)) (fun k y _ => ∃ x, b[k]? = some x ∧ y = vN x) hD (sz1000 (by rw [List.length_map]; omega)) (fun _ _ _ _ _ h => h) (fun H' s => sqT ((s3.trans s) _ _ hc)) ?_ ?_
        · rintro k x H5 H6 hi s5 ⟨rfl, e2⟩ K0 Kf k1 k2
          rw [List.getElem?_map] at e2
          obtain ⟨m, hm, rfl⟩ := Option.map_eq_some_iff.mp e2
          refine ⟨rfl, vN m, rfl, _, rfl, _, rfl, a, xs, (j : Int), .ref c2, rfl, e1, sqT ((s3.trans s5) _ _ ha), at_of (j := j) rfl (by rw [← ec2]; exact List.getElem?_eq_getElem hj), c2, _, rfl, .inr (sqT ((s3.trans s5) _ _ hc2)), rfl, flat_ints b2, _, rfl, ?_⟩
          show (if inV (vN m) (b2.map vN) = true then _ else _)
          rw [inV_ints]
          rw [hm] at k1 k2
          by_cases hcm : m ∈ b2
          · rw [decide_eq_true hcm]
            exact iteT ⟨vN m, rfl, k1 (decide_eq_true hcm) _ _ (Same.refl _) ⟨m, rfl, rfl⟩⟩
          · rw [decide_eq_false hcm]
            exact iteF (k2 (decide_eq_false hcm) _ (Same.refl _))
        · intro H5 zs s5 e pr
          rw [List.length_map] at pr
          have h1 := paired_vN (paired_filter pr)
          rw [h1] at e
          refine ⟨(by show 0 ≤ sizeLine; decide), fun n0 hn0 => ?_⟩
          have s6 := s5.trans (Same.new (o := .lst []) hn0)
          refine ⟨D0, n0, (b.filter fun x => decide (x ∈ b2)).map fun (n : Nat) => (n : Int), rfl, rfl, sqL ?_, sqL upd_same, _, rfl, ?_⟩
          · rw [upd_ne (ne_of_none e hn0), e, List.map_map]
            rfl
          have es : (!((b.filter fun x => decide (x ∈ b2)).map fun (n : Nat) => (n : Int)).isEmpty) = shares F i j := by
            rw [← shares_filter F i j, getD_of hb, getD_of hb2]
            cases b.filter fun x => decide (x ∈ b2) <;> rfl
          show (if (!((b.filter fun x => decide (x ∈ b2)).map fun (n : Nat) => (n : Int)).isEmpty) = true then _ else _)
          rw [es]
          have hl6 := s6 _ _ hl3
          have hlen := hys.len
          rw [List.length_map, List.length_append] at hlen
          have hl7 := flatMap_len (poursAt F) F.length (List.range i) fun y _ => toP_len F y F.length
          have hl8 := toP_len F i (i + 1 + t)
          rw [List.length_range] at hl7
          have hl9 : i * F.length ≤ 6 * 6 := Nat.mul_le_mul (by omega) (by omega)
          cases hs : shares F i j with
          | true =>
            refine iteT ⟨_, rfl, tyL hl6, _, rfl, _, rfl, (by show 2 ≤ sizeLine; decide), fun t0 ht0 => ?_⟩
            have s8 := s6.trans (Same.new (o := .tup [V.int (0 + (i : Int)), V.int (0 + (i : Int) + 1 + (t : Int))]) ht0)
            have hl8' := s8 _ _ hl3
            refine ⟨l0, ys, _, rfl, rfl, hl8', sz1000 (by omega), ?_⟩
            refine ⟨_, _, _, rfl, fun o u eo => ?_, upd_same, ?_⟩
            · rw [upd_ne (ne_of_none eo hl0)]
              exact s8 _ _ (s3 _ _ eo)
            · have tt := s8.tt.trans (TT.put (o := .lst (ys ++ [.ref t0])) hl8' fun _ z => nomatch z)
              have ej : i + 1 + (t + 1) = j + 1 := by omega
              rw [ej, toP_next, hs, decide_eq_true (by omega), if_pos (show (true && true) = true from rfl), ← List.append_assoc, List.map_append (l₂ := [(i, j)])]
              rw [hJ] at hys
              refine (Tqs.mono tt hys).append (.cons (tq_pair ?_) .nil)
              rw [upd_ne (ne_of_none hl6 ht0).symm, upd_same, e0, e1]
          | false =>
            refine iteF ⟨_, _, _, rfl, s3.trans s6, hl6, ?_⟩
            have ej : i + 1 + (t + 1) = j + 1 := by omega
            rw [ej, toP_next, hs, Bool.and_false, if_neg Bool.false_ne_true, List.append_nil]
            rw [hJ] at hys
            exact Tqs.mono s6.tt hys
      · rintro σ H3 ⟨ys, y3, y4, rfl, s3, hl3, hys⟩
        refine ⟨_, _, _, _, rfl, s3, hl3, ?_⟩
        have ee : i + 1 + ((xs.length : Int) - (0 + (i : Int) + 1)).toNat = F.length := by omega
        rw [ee] at hys
        rw [List.range_succ, List.flatMap_append, List.flatMap_cons, List.flatMap_nil, List.append_nil]
        exact hys
    · rintro σ H1 ⟨ys, y2, y3, y4, rfl, s1, hl1, hys⟩
      rw [hxl] at hys
      exact ⟨_, rfl, q l0 ys _ s1 hl1 hys⟩
end
end L2.SB
/-! The walk: after, _law_blind. -/
namespace L2.SB
open PySem PySem.Spec PyProof.Rows Sb
open PySem.W (alike dataLt dataLe)
open C8 (Cal pe_c pe_gc)

abbrev s_after : Stmt := top 30
abbrev s_lblind : Stmt := top 48
/-- what has been given when a entries and b pairs are done -/
def csAt (L : FR) (a b : Nat) : FR := contrib (L.take a) ++ ((L[a]?).elim [] fun e => contribOf e.1 e.2).take b
theorem csAt_prefix (L : FR) (a b : Nat) : csAt L a b <+: contrib L := by
  unfold csAt
  cases h : L[a]? with
  | none =>
    have hl := List.getElem?_eq_none_iff.mp h
    rw [List.take_of_length_le hl]
    exact ⟨[], by simp⟩
  | some e =>
    refine ⟨(contribOf e.1 e.2).drop b ++ contrib (L.drop (a + 1)), ?_⟩
    show (contrib (L.take a) ++ (contribOf e.1 e.2).take b) ++ ((contribOf e.1 e.2).drop b ++ contrib (L.drop (a + 1))) = contrib L
    rw [List.append_assoc, ← List.append_assoc ((contribOf e.1 e.2).take b), List.take_append_drop]
    have e1 : L = L.take a ++ e :: L.drop (a + 1) := by
      have := List.getElem?_eq_some_iff.mp h
      obtain ⟨h1, h2⟩ := this
      rw [← h2, ← List.drop_eq_getElem_cons h1, List.take_append_drop]
    conv => rhs; rw [e1]
    unfold contrib
    rw [List.flatMap_append, List.flatMap_cons]
theorem csAt_next {L : FR} {a b : Nat} {e : Fam × Rat2} {p : Nat × Nat} (h : L[a]? = some e) (hp : (pours e.1)[b]? = some p) : csAt L a (b + 1) = csAt L a b ++ [(pour e.1 p.1 p.2, partOf e.1 e.2)] := by
  unfold csAt
  rw [h, List.append_assoc]
  congr 1
  show (contribOf e.1 e.2).take (b + 1) = (contribOf e.1 e.2).take b ++ _
  have : (contribOf e.1 e.2)[b]? = some (pour e.1 p.1 p.2, partOf e.1 e.2) := by
    unfold contribOf
    rw [List.getElem?_map, hp]
    rfl
  rw [List.take_add_one, this]
  rfl
theorem csAt_turn {L : FR} {a : Nat} {e : Fam × Rat2} (h : L[a]? = some e) : csAt L a (pours e.1).length = csAt L (a + 1) 0 := by
  unfold csAt
  rw [h]
  have e1 : ((some e).elim [] fun e : Fam × Rat2 => contribOf e.1 e.2).take (pours e.1).length = contribOf e.1 e.2 := by
    show (contribOf e.1 e.2).take (pours e.1).length = _
    exact List.take_of_length_le (by unfold contribOf; rw [List.length_map]; exact Nat.le_refl _)
  rw [e1, List.take_zero, List.append_nil]
  unfold contrib
  rw [flatTake _ h]
theorem csAt_end (L : FR) : csAt L L.length 0 = contrib L := by
  unfold csAt
  rw [List.take_length, List.take_zero, List.append_nil]
/-- the numbers on the way -/
theorem num_small {t c : Nat} {r : Rat2} (ht : t ≤ 5) (hc : c ≤ 15 ^ (t + 1) * 8) (h : RB (360360 ^ (t + 1)) (bb t * c) r) : r.1 < 2 ^ 900 ∧ r.2 < 2 ^ 900 := by
  refine h.small (Nat.pow_pos (by decide)) (Nat.lt_of_le_of_lt (Nat.mul_le_mul_left _ (Nat.succ_le_succ (Nat.mul_le_mul_left _ hc))) (sizes t ht))
theorem lt1000 {n : Nat} (h : n < 2 ^ 900) : n < 2 ^ 1000 := Nat.lt_of_lt_of_le h (Nat.pow_le_pow_right (by decide) (by decide))
theorem accAt {n m t : Nat} {L : FR} (h : OkL n (m + 1) (360360 ^ t) (bb t) (15 ^ t) L) (hm : 1 ≤ m) (a b : Nat) : ∃ c, c ≤ 15 ^ (t + 1) ∧ OkL n m (360360 ^ (t + 1)) (bb t * c) c ((csAt L a b).foldl addL []) := by
  have hp := csAt_prefix L a b
  have h1 := hp.length_le
  have h2 := contrib_len h
  have h3 := h.len
  refine ⟨(csAt L a b).length, ?_, ?_⟩
  · rw [Nat.pow_succ]
    omega
  · rw [Nat.pow_succ]
    exact acc_ok fun e he => contrib_ok h hm e (hp.subset he)
/-- the numbers that one pair takes -/
theorem nums {n m t : Nat} {L : FR} (h : OkL n (m + 1) (360360 ^ t) (bb t) (15 ^ t) L) (hm : 1 ≤ m) (ht : t ≤ 5) {a b : Nat} {e : Fam × Rat2} {p : Nat × Nat} (he : L[a]? = some e) (hp : (pours e.1)[b]? = some p) :
    e.2.1 < 2 ^ 900 ∧ e.2.2 < 2 ^ 900 ∧ 0 < e.2.2 * (pours e.1).length ∧ (pours e.1).length ≤ 15 ∧ e.2.2 * (pours e.1).length < 2 ^ 4000 ∧
    (partOf e.1 e.2).1 < 2 ^ 1000 ∧ (partOf e.1 e.2).2 < 2 ^ 1000 ∧ 0 < (partOf e.1 e.2).2 ∧
    (∀ G, (((getL ((csAt L a b).foldl addL []) G).getD (0, 1)).1 < 2 ^ 1000 ∧ ((getL ((csAt L a b).foldl addL []) G).getD (0, 1)).2 < 2 ^ 1000 ∧ 0 < ((getL ((csAt L a b).foldl addL []) G).getD (0, 1)).2)) ∧
    ((csAt L a b).foldl addL []).length < sizeLine := by
  obtain ⟨g1, g2, g3⟩ := h.good e (List.mem_of_getElem? he)
  have hpos : 0 < (pours e.1).length := List.length_pos_iff.mpr (List.ne_nil_of_mem (List.mem_of_getElem? hp))
  have h15 := pours_len_le g1
  have hd : 360360 ^ t ∣ 360360 ^ (t + 1) := Nat.pow_dvd_pow _ (Nat.le_succ _)
  have hN : 1 ≤ 15 ^ (t + 1) := Nat.pow_pos (by decide)
  have k1 : RB (360360 ^ (t + 1)) (bb t * 1) e.2 := by rw [Nat.mul_one]; exact g3.mono hd (Nat.le_refl _)
  have s1 := num_small ht (by omega) k1
  have k2 : RB (360360 ^ (t + 1)) (bb t * 1) (partOf e.1 e.2) := by
    rw [Nat.mul_one, Nat.pow_succ]
    exact g3.part hpos (dvd_L hpos h15)
  have s2 := num_small ht (by omega) k2
  obtain ⟨c, hc, ok⟩ := accAt h hm a b
  refine ⟨s1.1, s1.2, Nat.mul_pos g3.pos hpos, h15, ?_, lt1000 s2.1, lt1000 s2.2, k2.pos, fun G => ?_, ?_⟩
  · refine Nat.lt_of_le_of_lt (Nat.mul_le_mul (Nat.le_of_lt s1.2) h15) ?_
    decide +kernel
  · have k3 : RB (360360 ^ (t + 1)) (bb t * c) ((getL ((csAt L a b).foldl addL []) G).getD (0, 1)) := by
      cases hg : getL ((csAt L a b).foldl addL []) G with
      | none => exact RB.zero _
      | some r => exact (ok.good _ (getL_mem hg)).2.2
    have s3 := num_small ht (by omega) k3
    exact ⟨lt1000 s3.1, lt1000 s3.2, k3.pos⟩
  · have h1 := ok.len
    have h2 : 15 ^ (t + 1) ≤ 15 ^ 6 := Nat.pow_le_pow_right (by decide) (by omega)
    have h3 : 15 ^ 6 < sizeLine := by decide +kernel
    omega
/-- the dict under way -/
structure Later (P : Program) (w : World) (H0 H : Hp) (d : Addr) (cs : FR) : Prop where
  free : H0 d = none
  same : Same H0 H
  dr : ∃ o xs, DR P w H d o xs (cs.foldl addL [])
theorem Later.keep {P : Program} {w : World} {H0 H H1 : Hp} {d : Addr} {cs : FR} (l : Later P w H0 H d cs) (s : Same H H1) : Later P w H0 H1 d cs :=
  ⟨l.free, l.same.trans s, let ⟨o, xs, h⟩ := l.dr; ⟨o, xs, h.same s⟩⟩
theorem Later.put {P : Program} {w : World} {H0 H : Hp} {d k v : Addr} {cs : FR} {o o' : Obj} {xs : NE} {F : Fam} {r : Rat2} (free : H0 d = none) (same : Same H0 H) (dr : DR P w H d o xs (cs.foldl addL [])) (hk : Tq H (.ref k) (encF F))
    (hv : Tq H (.ref v) (encR (plusR ((getL (cs.foldl addL []) F).getD (0, 1)) r))) : Later P w H0 (upd H d (ndO P w d o' (putN xs F k v))) d (cs ++ [(F, r)]) := by
  refine ⟨free, fun b u e => ?_, o', putN xs F k v, ?_⟩
  · rw [upd_ne (ne_of_none e free)]
    exact same _ _ e
  · rw [List.foldl_append]
    exact dr.put hk hv
/-- what get gives -/
theorem got {P : Program} {w : World} {H : Hp} {d z : Addr} {o : Obj} {xs : NE} {L : FR} (dr : DR P w H d o xs L) (F : Fam) (hz : Tq H (.ref z) (encR (0, 1))) : Tq H ((getN xs F).elim (.ref z) V.ref) (encR ((getL L F).getD (0, 1))) := by
  rcases get_rel dr.rel F with ⟨h1, h2⟩ | ⟨va, r, h1, h2, h3⟩
  · rw [h1, h2]; exact hz
  · rw [h1, h2]; exact h3
theorem DR.one {P : Program} {w : World} {H : Hp} {p ka va : Addr} {o' : Obj} {F : Fam} (h : ∃ u, H p = some u ∧ ∀ xs, u ≠ .tup xs) (hk : Tq H (.ref ka) (encF F)) (hv : Tq H (.ref va) (encR (1, 1))) : DR P w (upd H p (ndO P w p o' [(F, ka, va)])) p o' [(F, ka, va)] [(F, (1, 1))] := by
  obtain ⟨u, hu, nu⟩ := h
  have tt : TT H (upd H p (ndO P w p o' [(F, ka, va)])) := TT.put hu nu
  refine ⟨⟨upd_same, fun x hx => ?_⟩, .cons ⟨rfl, hv.mono tt⟩ .nil⟩
  rw [List.mem_singleton.mp hx]
  exact hk.mono tt
section
variable {P : Program} {w : World} {K : PySem.W.Frag} {mg : Str → Option Value} {base : Heap}
def sp_blind (P : Program) (w : World) : Sp := fun vs H Q _ => ∃ (v : V) (F : Fam) (n t : Nat), vs = [v, vN t] ∧ Tq H v (encF F) ∧ GoodF n F ∧ t < F.length ∧ ∀ d o xs H', Same H H' → DR P w H' d o xs (blind F t) → Q (.ref d) H'
theorem sc_after : FnScope ["family", "times", "now", "turn", "later", "here", "share", "some", "one", "other", "there"] ["family", "times"] (defScope s_after) := ⟨rfl, rfl, rfl, by decide +kernel, rfl, by decide +kernel, by decide +kernel⟩
theorem ok_after (T : Bt mg) (C1 : Cal P w K mg base 3 "pairs_of" sp_pours []) (C2 : Cal P w K mg base 1 "poured_at" sp_pour []) (C3 : Cal P w K mg base 3 "plus" sp_plus []) (C4 : Cal P w K mg base 2 "lowered" sp_lowered [])
    (D : DefAt K mg "after" s_after ["family", "times"]) : Cal P w K mg base 4 "after" (sp_blind P w) [] := by
  refine cal_ok D sc_after (fun vs H Q E h => ?_) (fun f cdv A outer s H vs Q E hr h => ?_)
  · obtain ⟨v, F, n, t, rfl, _⟩ := h
    rfl
  · obtain ⟨v, F, n, tm, rfl, hv, g, htm, q⟩ := h
    have nd := sc_after.nd
    have hv0 := hv
    obtain ⟨a, xs, rfl, ha, hx⟩ := hv.fam
    have hfew := g.tree.few
    have hn7 := g.few
    refine ⟨_, pss_cons (ps_set (i := 2) nd rfl (Or.inl rfl) (pe_dispN (hu10 hr) (pv 0) (pe_tup (pa2 pe_int pe_int))))
      (pss_cons (ps_for PassesOwn.never rfl (pi_range1 (by rfl) T.range (pa1 (pv 1))) (pg_name (i := 3) nd rfl (Or.inl rfl))
        (pss_cons (ps_set (i := 4) nd rfl (Or.inl rfl) pe_dnewN)
        (pss_cons (ps_for PassesOwn.never rfl (pi_itemsN (pv 2)) (pg_tup (n := 2) rfl (pgs_cons (pg_name (i := 5) nd rfl (Or.inl rfl)) (pgs_cons (pg_name (i := 6) nd rfl (Or.inl rfl)) pgs_nil)))
          (pss_cons (ps_set (i := 7) nd rfl (Or.inl rfl) (pe_c C1 hr (by decide) (by rfl) (pa1 (pv 5))))
          (pss_one (ps_for PassesOwn.never rfl (pi_list (pv 7)) (pg_tup (n := 2) rfl (pgs_cons (pg_name (i := 8) nd rfl (Or.inl rfl)) (pgs_cons (pg_name (i := 9) nd rfl (Or.inl rfl)) pgs_nil)))
            (pss_cons (ps_set (i := 10) nd rfl (Or.inl rfl) (pe_c C2 hr (by decide) (by rfl) (pa_cons (pv 5) (pa2 (pv 8) (pv 9)))))
            (pss_one (ps_asg (pe_c C3 hr (by decide) (by rfl) (pa2 (pe_getN (hu10 hr) (pv 4) (pv 10) (pe_tup (pa2 pe_int pe_int)) ⟨rfl, rfl, rfl, rfl⟩)
                (pe_c C4 hr (by decide) (by rfl) (pa2 (x_ixT (pv 6) pe_int (fun _ _ => rfl)) (pe_op op_mulW (x_ixT (pv 6) pe_int (fun _ _ => rfl)) (x_len T (pv 7)))))))
              (pg_sub (pv 4) (pv 10) (set_N (hu10 hr))))))))))
        (pss_one (ps_set (i := 2) nd rfl (Or.inl rfl) (pv 4))))))
      (pss_one (ps_ret (pv 2)))), ?_⟩
    -- now = {family: (1, 1)}
    intro dn o0 hdn
    refine ⟨_, rfl, (by show 2 ≤ sizeLine; decide), fun va hva => ?_⟩
    have npv : dn ≠ va := ne_of_none upd_same hva
    refine ⟨F, a, va, rfl, by rw [upd_ne npv]; exact upd_same, ?_, fun o1 => ?_⟩
    · exact hv0.mono ((TT.new hdn).trans (TT.new hva))
    have dr0 := DR.one (P := P) (w := w) (p := dn) (ka := a) (va := va) (o' := o1) (F := F) (H := upd (upd H dn (ndO P w dn o0 [])) va (.tup [V.int 1, V.int 1])) ⟨ndO P w dn o0 [], by rw [upd_ne npv]; exact upd_same, fun _ z => nomatch z⟩
      (hv0.mono ((TT.new hdn).trans (TT.new hva))) (Tq.ofRat (r := (1, 1)) upd_same)
    have s0 : Same H (upd (upd (upd H dn (ndO P w dn o0 [])) va (.tup [V.int 1, V.int 1])) dn (ndO P w dn o1 [(F, a, va)])) := fun b u e => by
      have hb := ne_of_none e hdn
      rw [upd_ne hb]
      exact (((Same.new hdn).trans (Same.new hva)) _ _ e)
    -- for turn in range(times)
    refine ⟨_, rfl, (tm : Int), rfl, by omega, by omega, ?_⟩
    refine for_it (walk_range (lo := 0) (n := tm)) (fun t σ H1 => ∃ dn on xn y3 y4 y5 y6 y7 y8 y9 y10, σ = [some (.ref a), some (vN tm), some (.ref dn), y3, y4, y5, y6, y7, y8, y9, y10] ∧ Same H H1 ∧ DR P w H1 dn on xn (blind F t)) ⟨dn, o1, _, _, _, _, _, _, _, _, _, rfl, s0, dr0⟩ (fun _ _ _ _ _ => True.intro) ?_ ?_
    · rintro t z σ H1 H2 ht ⟨dn, on, xn, y3, y4, y5, y6, y7, y8, y9, y10, rfl, s1, dr⟩ ⟨rfl, rfl⟩
      have hF5 : t ≤ 5 := by omega
      obtain ⟨okL, _⟩ := blind_ok g t (by omega)
      have em : F.length - t = (F.length - (t + 1)) + 1 := by omega
      rw [em] at okL
      have hm : 1 ≤ F.length - (t + 1) := by omega
      generalize hL : blind F t = L at okL dr
      -- later = {}
      intro dl ol hdl
      have sl : Same H2 (upd H2 dl (ndO P w dl ol [])) := Same.new hdl
      have l0 : Later P w H2 (upd H2 dl (ndO P w dl ol [])) dl (csAt L 0 0) := ⟨hdl, sl, ol, [], ⟨⟨upd_same, (fun x hx => nomatch hx)⟩, .nil⟩⟩
      refine ⟨_, rfl, dn, on, xn, rfl, sl _ _ dr.nd.ob, ?_⟩
      refine for_it walk_itemsN (fun i σ H3 => ∃ y5 y6 y7 y8 y9 y10, σ = [some (.ref a), some (vN tm), some (.ref dn), some (V.int (0 + (t : Int))), some (.ref dl), y5, y6, y7, y8, y9, y10] ∧ Later P w H2 H3 dl (csAt L i 0)) ⟨_, _, _, _, _, _, rfl, l0⟩ (fun i σ H3 _ h => by
        obtain ⟨_, _, _, _, _, _, _, l⟩ := h
        exact l.same _ _ dr.nd.ob) ?_ ?_
      · rintro i z σ H3 H4 hi ⟨y5, y6, y7, y8, y9, y10, rfl, l3⟩ ⟨T0, y, hy, rfl, hT0, rfl⟩
        obtain ⟨e, he, ey1, ey2⟩ := dr.rel.getP hy
        have hkey := dr.nd.ks y (List.mem_of_getElem? hy)
        rw [ey1] at hkey
        obtain ⟨ge, gl, gr⟩ := okL.good e (List.mem_of_getElem? he)
        have l4 := l3.keep (Same.new (o := .tup [V.ref y.2.1, V.ref y.2.2]) hT0)
        refine ⟨T0, [V.ref y.2.1, V.ref y.2.2], rfl, sqT upd_same, rfl, _, _, rfl, _, _, rfl, rfl, ?_⟩
        -- some = pairs_of(here)
        refine ⟨_, rfl, _, e.1, n, rfl, hkey.mono l4.same.tt, ge.tree, ge.few, fun ps pys H5 s5 hps hpys => ?_⟩
        have l5 := l4.keep s5
        have hpl : pys.length = (pours e.1).length := by rw [hpys.len, List.length_map]
        refine ⟨_, rfl, ps, rfl, ⟨_, sqL hps⟩, ?_⟩
        refine for_it (walk_list (xs := pys)) (fun j σ H6 => ∃ y8 y9 y10, σ = [some (.ref a), some (vN tm), some (.ref dn), some (V.int (0 + (t : Int))), some (.ref dl), some (.ref y.2.1), some (.ref y.2.2), some (.ref ps), y8, y9, y10] ∧ Later P w H2 H6 dl (csAt L i j) ∧ H6 ps = some (.lst pys) ∧ TT H5 H6) ⟨_, _, _, rfl, l5, hps, TT.refl _⟩ (fun j σ H6 _ h => by
          obtain ⟨_, _, _, _, _, h, _⟩ := h
          exact sqL h) ?_ ?_
        · rintro j z σ H6 H7 hj ⟨y8, y9, y10, rfl, l6, hps6, tt6⟩ ⟨rfl, ez⟩
          obtain ⟨p, hp, hpq⟩ := hpys.at ez
          obtain ⟨m1, m2, m3⟩ := mem_pours.mp (List.mem_of_getElem? hp)
          have hpq6 := hpq.mono tt6
          obtain ⟨pa, pvs, rfl, hpa, hpt⟩ := hpq6.tupInv
          have epv : pvs = [vN p.1, vN p.2] := Tqs.intsInv (ns := [p.1, p.2]) hpt
          subst epv
          obtain ⟨n1, n2, n3, n4, n5, n6, n7, n8, n9, n10⟩ := nums okL hm hF5 he hp
          refine ⟨pa, [vN p.1, vN p.2], rfl, sqT hpa, rfl, _, _, rfl, _, _, rfl, rfl, ?_⟩
          -- there = poured_at(here, one, other)
          refine ⟨_, rfl, _, rfl, _, rfl, _, e.1, n, p.1, p.2, rfl, hkey.mono l6.same.tt, ge.tree, ge.few, m1, m2, fun tv H8 s8 htv => ?_⟩
          have l8 := l6.keep s8
          have htv0 := htv
          obtain ⟨ta, tvs, rfl, hta, _⟩ := htv.fam
          obtain ⟨o8, x8, d8⟩ := l8.dr
          -- later.get(there, (0, 1))
          refine ⟨_, rfl, dl, o8, x8, rfl, d8.nd, _, rfl, (by show 2 ≤ sizeLine; decide), fun z0 hz0 => ?_⟩
          have s9 : Same H8 (upd H8 z0 (.tup [V.int 0, V.int 1])) := Same.new hz0
          have d9 := d8.same s9
          have hz01 : Tq (upd H8 z0 (.tup [V.int 0, V.int 1])) (.ref z0) (encR (0, 1)) := Tq.ofRat (r := (0, 1)) upd_same
          have hget := got d9 (pour e.1 p.1 p.2) hz01
          refine ⟨pour e.1 p.1 p.2, ta, rfl, d9.nd, htv0.mono s9.tt, ?_⟩
          have l9 := l8.keep s9
          have hsh := ey2.mono l9.same.tt
          obtain ⟨sa, esa, hsa⟩ := hsh.rat
          have hps9 : (upd H8 z0 (.tup [V.int 0, V.int 1])) ps = some (.lst pys) := s9 _ _ (s8 _ _ hps6)
          refine ⟨_, rfl, sa, _, 0, _, esa, rfl, sqT hsa, rfl, ?_⟩
          refine ⟨_, rfl, sa, _, 1, _, esa, rfl, sqT hsa, rfl, ?_⟩
          refine ⟨_, rfl, ps, pys, rfl, .inl (sqL hps9), _, _, rfl, rfl, wide_mul (a := 900) (b := 10) (nabs n2) (nabs (by omega)) (by decide) (by decide) (by decide), ?_⟩
          have emul : V.int ((e.2.2 : Int) * (pys.length : Int)) = vN (e.2.2 * (pours e.1).length) := by rw [hpl]; rfl
          refine ⟨e.2.1, e.2.2 * (pours e.1).length, congrArg (fun x => [vN e.2.1, x]) emul, n3, n5, fun lv H10 s10 hlv => ?_⟩
          obtain ⟨g1, g2, g3⟩ := n9 (pour e.1 p.1 p.2)
          refine ⟨_, lv, _, partOf e.1 e.2, rfl, hget.mono s10.tt, hlv, g3, n8, g1, g2, n6, n7, fun rv H11 s11 hrv => ?_⟩
          have d11 := (d9.same s10).same s11
          have hrv0 := hrv
          obtain ⟨ra, rfl, _⟩ := hrv.rat
          have htv11 := ((htv0.mono s9.tt).mono s10.tt).mono s11.tt
          have hps11 := s11 _ _ (s10 _ _ hps9)
          refine ⟨_, rfl, _, rfl, dl, o8, x8, pour e.1 p.1 p.2, ta, ra, rfl, rfl, rfl, d11.nd, htv11, ?_, fun o' => ?_⟩
          · have := d11.rel.lenP
            omega
          · have sAll := ((l9.keep s10).keep s11)
            refine ⟨_, _, _, rfl, ?_, ?_, ?_⟩
            · rw [csAt_next he hp]
              exact Later.put sAll.free sAll.same d11 htv11 hrv0
            · rw [upd_ne (ne_of hps11 d11.nd.ob (fun z => nomatch z))]
              exact hps11
            · exact (tt6.trans (((s8.trans s9).trans s10).trans s11).tt).trans (TT.put d11.nd.ob fun _ z => nomatch z)
        · rintro σ H6 ⟨y8, y9, y10, rfl, l6, _, _⟩
          rw [hpl, csAt_turn he] at l6
          exact ⟨_, _, _, _, _, _, rfl, l6⟩
      · rintro σ H3 ⟨y5, y6, y7, y8, y9, y10, rfl, l3⟩
        have hlen := dr.rel.lenP
        rw [hlen, csAt_end] at l3
        obtain ⟨o3, x3, d3⟩ := l3.dr
        exact ⟨_, rfl, dl, o3, x3, _, _, _, _, _, _, _, _, rfl, s1.trans l3.same, by rw [← hL] at d3; exact d3⟩
    · rintro σ H1 ⟨dn, on, xn, y3, y4, y5, y6, y7, y8, y9, y10, rfl, s1, dr⟩
      exact ⟨_, rfl, q dn on xn _ s1 dr⟩
end
end L2.SB
/-! The walk: _law_blind. -/
namespace L2.SB
open PySem PySem.Spec PyProof.Rows Sb
open PySem.W (alike dataLt dataLe)
open C8 (Cal pe_c pe_gc)
theorem DR.at {P : Program} {w : World} {H : Hp} {d : Addr} {o : Obj} {xs : NE} {L : FR} (dr : DR P w H d o xs L) (nd : (L.map (·.1)).Nodup) {e : Fam × Rat2} (he : e ∈ L) : ∃ va, getN xs e.1 = some va ∧ Tq H (.ref va) (encR e.2) := by
  have h := getL_of nd (F := e.1) (r := e.2) he
  rcases get_rel dr.rel e.1 with ⟨_, h2⟩ | ⟨va, r, h1, h2, h3⟩
  · rw [h] at h2; cases h2
  · rw [h] at h2
    cases h2
    exact ⟨va, h1, h3⟩
section
variable {P : Program} {w : World} {K : PySem.W.Frag} {mg : Str → Option Value} {base : Heap}
theorem sc_lblind : FnScope ["_law_family_here", "_law_times", "_law_now", "_law_turn", "_law_later", "_law_here", "_law_some", "_law_one", "_law_other", "_law_there"] ["_law_family_here", "_law_times"] (defScope s_lblind) := ⟨rfl, rfl, rfl, by decide +kernel, rfl, by decide +kernel, by decide +kernel⟩
theorem ok_lblind (T : Bt mg) (C1 : Cal P w K mg base 1 "_law_pours" sp_pours []) (C2 : Cal P w K mg base 1 "_law_pour" sp_pour []) (C3 : Cal P w K mg base 3 "_law_plus" sp_plus []) (C4 : Cal P w K mg base 2 "_law_lowered" sp_lowered [])
    (D : DefAt K mg "_law_blind" s_lblind ["_law_family_here", "_law_times"]) : Cal P w K mg base 4 "_law_blind" (sp_blind P w) [] := by
  refine cal_ok D sc_lblind (fun vs H Q E h => ?_) (fun f cdv A outer s H vs Q E hr h => ?_)
  · obtain ⟨v, F, n, t, rfl, _⟩ := h
    rfl
  · obtain ⟨v, F, n, tm, rfl, hv, g, htm, q⟩ := h
    have nd := sc_lblind.nd
    have hv0 := hv
    obtain ⟨a, xs, rfl, ha, hx⟩ := hv.fam
    have hfew := g.tree.few
    have hn7 := g.few
    refine ⟨_, pss_cons (ps_set (i := 2) nd rfl (Or.inl rfl) (pe_dispN (hu10 hr) (pv 0) (pe_tup (pa2 pe_int pe_int))))
      (pss_cons (ps_for PassesOwn.never rfl (pi_range1 (by rfl) T.range (pa1 (pv 1))) (pg_name (i := 3) nd rfl (Or.inl rfl))
        (pss_cons (ps_set (i := 4) nd rfl (Or.inl rfl) pe_dnewN)
        (pss_cons (ps_for PassesOwn.never rfl (pi_keysN (pv 2)) (pg_name (i := 5) nd rfl (Or.inl rfl))
          (pss_cons (ps_set (i := 6) nd rfl (Or.inl rfl) (pe_c C1 hr (by decide) (by rfl) (pa1 (pv 5))))
          (pss_one (ps_for PassesOwn.never rfl (pi_list (pv 6)) (pg_tup (n := 2) rfl (pgs_cons (pg_name (i := 7) nd rfl (Or.inl rfl)) (pgs_cons (pg_name (i := 8) nd rfl (Or.inl rfl)) pgs_nil)))
            (pss_cons (ps_set (i := 9) nd rfl (Or.inl rfl) (pe_c C2 hr (by decide) (by rfl) (pa_cons (pv 5) (pa2 (pv 7) (pv 8)))))
            (pss_one (ps_asg (pe_c C3 hr (by decide) (by rfl) (pa2 (pe_getN (hu10 hr) (pv 4) (pv 9) (pe_tup (pa2 pe_int pe_int)) ⟨rfl, rfl, rfl, rfl⟩)
                (pe_c C4 hr (by decide) (by rfl) (pa2 (x_ixT (pe_ix (ix_N (hu10 hr)) (pv 2) (pv 5) (fun _ _ => rfl)) pe_int (fun _ _ => rfl)) (pe_op op_mulW (x_ixT (pe_ix (ix_N (hu10 hr)) (pv 2) (pv 5) (fun _ _ => rfl)) pe_int (fun _ _ => rfl)) (x_len T (pv 6)))))))
              (pg_sub (pv 4) (pv 9) (set_N (hu10 hr))))))))))
        (pss_one (ps_set (i := 2) nd rfl (Or.inl rfl) (pv 4))))))
      (pss_one (ps_ret (pv 2)))), ?_⟩
    intro dn o0 hdn
    refine ⟨_, rfl, (by show 2 ≤ sizeLine; decide), fun va hva => ?_⟩
    have npv : dn ≠ va := ne_of_none upd_same hva
    refine ⟨F, a, va, rfl, by rw [upd_ne npv]; exact upd_same, ?_, fun o1 => ?_⟩
    · exact hv0.mono ((TT.new hdn).trans (TT.new hva))
    have dr0 := DR.one (P := P) (w := w) (p := dn) (ka := a) (va := va) (o' := o1) (F := F) (H := upd (upd H dn (ndO P w dn o0 [])) va (.tup [V.int 1, V.int 1])) ⟨ndO P w dn o0 [], by rw [upd_ne npv]; exact upd_same, fun _ z => nomatch z⟩
      (hv0.mono ((TT.new hdn).trans (TT.new hva))) (Tq.ofRat (r := (1, 1)) upd_same)
    have s0 : Same H (upd (upd (upd H dn (ndO P w dn o0 [])) va (.tup [V.int 1, V.int 1])) dn (ndO P w dn o1 [(F, a, va)])) := fun b u e => by
      have hb := ne_of_none e hdn
      rw [upd_ne hb]
      exact (((Same.new hdn).trans (Same.new hva)) _ _ e)
    refine ⟨_, rfl, (tm : Int), rfl, by omega, by omega, ?_⟩
    refine for_it (walk_range (lo := 0) (n := tm)) (fun t σ H1 => ∃ dn on xn y3 y4 y5 y7 y8 y9 y10, σ = [some (.ref a), some (vN tm), some (.ref dn), y3, y4, y5, y7, y8, y9, y10] ∧ Same H H1 ∧ DR P w H1 dn on xn (blind F t)) ⟨dn, o1, _, _, _, _, _, _, _, _, rfl, s0, dr0⟩ (fun _ _ _ _ _ => True.intro) ?_ ?_
    · rintro t z σ H1 H2 ht ⟨dn, on, xn, y3, y4, y5, y7, y8, y9, y10, rfl, s1, dr⟩ ⟨rfl, rfl⟩
      have hF5 : t ≤ 5 := by omega
      obtain ⟨okL, _⟩ := blind_ok g t (by omega)
      have em : F.length - t = (F.length - (t + 1)) + 1 := by omega
      rw [em] at okL
      have hm : 1 ≤ F.length - (t + 1) := by omega
      generalize hL : blind F t = L at okL dr
      intro dl ol hdl
      have sl : Same H2 (upd H2 dl (ndO P w dl ol [])) := Same.new hdl
      have l0 : Later P w H2 (upd H2 dl (ndO P w dl ol [])) dl (csAt L 0 0) := ⟨hdl, sl, ol, [], ⟨⟨upd_same, (fun x hx => nomatch hx)⟩, .nil⟩⟩
      refine ⟨_, rfl, dn, on, xn, rfl, sl _ _ dr.nd.ob, ?_⟩
      refine for_it walk_keysN (fun i σ H3 => ∃ y5 y7 y8 y9 y10, σ = [some (.ref a), some (vN tm), some (.ref dn), some (V.int (0 + (t : Int))), some (.ref dl), y5, y7, y8, y9, y10] ∧ Later P w H2 H3 dl (csAt L i 0)) ⟨_, _, _, _, _, rfl, l0⟩ (fun i σ H3 _ h => by
        obtain ⟨_, _, _, _, _, _, l⟩ := h
        exact l.same _ _ dr.nd.ob) ?_ ?_
      · rintro i z σ H3 H4 hi ⟨y5, y7, y8, y9, y10, rfl, l4⟩ ⟨rfl, y, hy, rfl⟩
        obtain ⟨e, he, ey1, _⟩ := dr.rel.getP hy
        have hkey := dr.nd.ks y (List.mem_of_getElem? hy)
        rw [ey1] at hkey
        obtain ⟨ge, gl, gr⟩ := okL.good e (List.mem_of_getElem? he)
        obtain ⟨ev, hev, ey2⟩ := dr.at okL.nd (List.mem_of_getElem? he)
        refine ⟨_, rfl, _, e.1, n, rfl, hkey.mono l4.same.tt, ge.tree, ge.few, fun ps pys H5 s5 hps hpys => ?_⟩
        have l5 := l4.keep s5
        have hpl : pys.length = (pours e.1).length := by rw [hpys.len, List.length_map]
        refine ⟨_, rfl, ps, rfl, ⟨_, sqL hps⟩, ?_⟩
        refine for_it (walk_list (xs := pys)) (fun j σ H6 => ∃ y8 y9 y10, σ = [some (.ref a), some (vN tm), some (.ref dn), some (V.int (0 + (t : Int))), some (.ref dl), some (.ref y.2.1), some (.ref ps), y8, y9, y10] ∧ Later P w H2 H6 dl (csAt L i j) ∧ H6 ps = some (.lst pys) ∧ TT H5 H6) ⟨_, _, _, rfl, l5, hps, TT.refl _⟩ (fun j σ H6 _ h => by
          obtain ⟨_, _, _, _, _, h, _⟩ := h
          exact sqL h) ?_ ?_
        · rintro j z σ H6 H7 hj ⟨y8, y9, y10, rfl, l6, hps6, tt6⟩ ⟨rfl, ez⟩
          obtain ⟨p, hp, hpq⟩ := hpys.at ez
          obtain ⟨m1, m2, m3⟩ := mem_pours.mp (List.mem_of_getElem? hp)
          have hpq6 := hpq.mono tt6
          obtain ⟨pa, pvs, rfl, hpa, hpt⟩ := hpq6.tupInv
          have epv : pvs = [vN p.1, vN p.2] := Tqs.intsInv (ns := [p.1, p.2]) hpt
          subst epv
          obtain ⟨n1, n2, n3, n4, n5, n6, n7, n8, n9, n10⟩ := nums okL hm hF5 he hp
          refine ⟨pa, [vN p.1, vN p.2], rfl, sqT hpa, rfl, _, _, rfl, _, _, rfl, rfl, ?_⟩
          refine ⟨_, rfl, _, rfl, _, rfl, _, e.1, n, p.1, p.2, rfl, hkey.mono l6.same.tt, ge.tree, ge.few, m1, m2, fun tv H8 s8 htv => ?_⟩
          have l8 := l6.keep s8
          have htv0 := htv
          obtain ⟨ta, tvs, rfl, hta, _⟩ := htv.fam
          obtain ⟨o8, x8, d8⟩ := l8.dr
          refine ⟨_, rfl, dl, o8, x8, rfl, d8.nd, _, rfl, (by show 2 ≤ sizeLine; decide), fun z0 hz0 => ?_⟩
          have s9 : Same H8 (upd H8 z0 (.tup [V.int 0, V.int 1])) := Same.new hz0
          have d9 := d8.same s9
          have hz01 : Tq (upd H8 z0 (.tup [V.int 0, V.int 1])) (.ref z0) (encR (0, 1)) := Tq.ofRat (r := (0, 1)) upd_same
          have hget := got d9 (pour e.1 p.1 p.2) hz01
          refine ⟨pour e.1 p.1 p.2, ta, rfl, d9.nd, htv0.mono s9.tt, ?_⟩
          have l9 := l8.keep s9
          have hsh := ey2.mono l9.same.tt
          obtain ⟨sa, esa, hsa⟩ := hsh.rat
          have dn9 := dr.same l9.same
          have hkey9 := hkey.mono l9.same.tt
          have hps9 : (upd H8 z0 (.tup [V.int 0, V.int 1])) ps = some (.lst pys) := s9 _ _ (s8 _ _ hps6)
          refine ⟨_, rfl, _, rfl, dn, on, xn, e.1, y.2.1, ev, rfl, rfl, dn9.nd, hkey9, hev, sa, _, 0, _, esa, rfl, sqT hsa, rfl, ?_⟩
          refine ⟨_, rfl, _, rfl, dn, on, xn, e.1, y.2.1, ev, rfl, rfl, dn9.nd, hkey9, hev, sa, _, 1, _, esa, rfl, sqT hsa, rfl, ?_⟩
          refine ⟨_, rfl, ps, pys, rfl, .inl (sqL hps9), _, _, rfl, rfl, wide_mul (a := 900) (b := 10) (nabs n2) (nabs (by omega)) (by decide) (by decide) (by decide), ?_⟩
          have emul : V.int ((e.2.2 : Int) * (pys.length : Int)) = vN (e.2.2 * (pours e.1).length) := by rw [hpl]; rfl
          refine ⟨e.2.1, e.2.2 * (pours e.1).length, congrArg (fun x => [vN e.2.1, x]) emul, n3, n5, fun lv H10 s10 hlv => ?_⟩
          obtain ⟨g1, g2, g3⟩ := n9 (pour e.1 p.1 p.2)
          refine ⟨_, lv, _, partOf e.1 e.2, rfl, hget.mono s10.tt, hlv, g3, n8, g1, g2, n6, n7, fun rv H11 s11 hrv => ?_⟩
          have d11 := (d9.same s10).same s11
          have hrv0 := hrv
          obtain ⟨ra, rfl, _⟩ := hrv.rat
          have htv11 := ((htv0.mono s9.tt).mono s10.tt).mono s11.tt
          have hps11 := s11 _ _ (s10 _ _ hps9)
          refine ⟨_, rfl, _, rfl, dl, o8, x8, pour e.1 p.1 p.2, ta, ra, rfl, rfl, rfl, d11.nd, htv11, ?_, fun o' => ?_⟩
          · have := d11.rel.lenP
            omega
          · have sAll := ((l9.keep s10).keep s11)
            refine ⟨_, _, _, rfl, ?_, ?_, ?_⟩
            · rw [csAt_next he hp]
              exact Later.put sAll.free sAll.same d11 htv11 hrv0
            · rw [upd_ne (ne_of hps11 d11.nd.ob (fun z => nomatch z))]
              exact hps11
            · exact (tt6.trans (((s8.trans s9).trans s10).trans s11).tt).trans (TT.put d11.nd.ob fun _ z => nomatch z)
        · rintro σ H6 ⟨y8, y9, y10, rfl, l6, _, _⟩
          rw [hpl, csAt_turn he] at l6
          exact ⟨_, _, _, _, _, rfl, l6⟩
      · rintro σ H3 ⟨y5, y7, y8, y9, y10, rfl, l3⟩
        have hlen := dr.rel.lenP
        rw [hlen, csAt_end] at l3
        obtain ⟨o3, x3, d3⟩ := l3.dr
        exact ⟨_, rfl, dl, o3, x3, _, _, _, _, _, _, _, rfl, s1.trans l3.same, by rw [← hL] at d3; exact d3⟩
    · rintro σ H1 ⟨dn, on, xn, y3, y4, y5, y7, y8, y9, y10, rfl, s1, dr⟩
      exact ⟨_, rfl, q dn on xn _ s1 dr⟩
end
end L2.SB
/-! The walk: chances, mean_greatest, likeliest, last_pair. -/
namespace L2.SB
open PySem PySem.Spec PyProof.Rows Sb
open PySem.W (alike dataLt dataLe)
open C8 (Cal pe_c pe_gc)

abbrev s_chances : Stmt := top 32
abbrev s_mean_greatest : Stmt := top 33
abbrev s_likeliest : Stmt := top 34
abbrev s_last_pair : Stmt := top 35
def srt (L : FR) : FR := L.mergeSort (dataLe false encI)
def encL (L : FR) : PyData := .tuple (L.map encI)
/-- the greatest bag's size -/
def big (h : Fam) : Nat := (h.map List.length).foldr max 0
theorem foldr_max {l : List Nat} : l ≠ [] → l.foldr max 0 ∈ l ∧ ∀ y, y ∈ l → y ≤ l.foldr max 0 := by
  induction l with
  | nil => intro h; exact absurd rfl h
  | cons x l ih =>
    intro _
    rw [List.foldr_cons]
    by_cases hl : l = []
    · subst hl
      simp
    · obtain ⟨h1, h2⟩ := ih hl
      refine ⟨?_, fun y hy => ?_⟩
      · by_cases h : x ≤ l.foldr max 0
        · rw [Nat.max_eq_right h]; exact List.mem_cons_of_mem _ h1
        · rw [Nat.max_eq_left (by omega)]; exact List.mem_cons_self
      · rcases List.mem_cons.mp hy with rfl | hy
        · exact Nat.le_max_left ..
        · exact Nat.le_trans (h2 y hy) (Nat.le_max_right ..)
theorem big_is {h : Fam} (hne : h ≠ []) {m : Int} (hm : m ∈ h.map fun b => ((b.length : Nat) : Int)) (hu : ∀ y, y ∈ (h.map fun b => ((b.length : Nat) : Int)) → y ≤ m) : m = (big h : Int) := by
  have h0 : h.map List.length ≠ [] := fun z => hne (List.map_eq_nil_iff.mp z)
  obtain ⟨h1, h2⟩ := foldr_max h0
  obtain ⟨b, hb, rfl⟩ := List.mem_map.mp hm
  have h3 := h2 b.length (List.mem_map.mpr ⟨b, hb, rfl⟩)
  obtain ⟨c, hc, ec⟩ := List.mem_map.mp h1
  have h4 := hu _ (List.mem_map.mpr ⟨c, hc, rfl⟩)
  have e : big h = c.length := ec.symm
  have h3 : b.length ≤ big h := h3
  omega
theorem big_le {n : Nat} {h : Fam} (t : Tree n h) : big h ≤ n := by
  have h0 : h.map List.length ≠ [] := fun z => t.ne_nil (List.map_eq_nil_iff.mp z)
  obtain ⟨c, hc, ec⟩ := List.mem_map.mp (foldr_max h0).1
  have := Tree.len t hc
  have e : big h = c.length := ec.symm
  omega
def meanStep (f : Rat2) (e : Fam × Rat2) : Rat2 := plusR f (low (e.2.1 * big e.1) e.2.2)
def meanL (L : FR) : Rat2 := L.foldl meanStep (0, 1)
theorem meanL_snoc (L : FR) (e : Fam × Rat2) : meanL (L ++ [e]) = meanStep (meanL L) e := by
  unfold meanL
  rw [List.foldl_append]
  rfl
theorem take_snoc {α : Type} {L : List α} {i : Nat} {e : α} (h : L[i]? = some e) : L.take (i + 1) = L.take i ++ [e] := by rw [List.take_add_one, h]; rfl
theorem mean_rb {n m D B N : Nat} {L : FR} (ok : OkL n m D B N L) (hn : n ≤ 7) : ∀ i, i ≤ L.length → RB D (B * (7 * i)) (meanL (L.take i)) := by
  intro i
  induction i with
  | zero => intro _; exact RB.zero _
  | succ i ih =>
    intro h
    have he : L[i]? = some L[i] := List.getElem?_eq_getElem h
    rw [take_snoc he, meanL_snoc]
    obtain ⟨h1, h2, h3⟩ := ok.good L[i] (List.mem_of_getElem? he)
    have e : B * (7 * (i + 1)) = B * (7 * i) + B * 7 := by rw [Nat.mul_add, Nat.mul_add]
    rw [e]
    exact (ih (by omega)).plus ((h3.times (m := big L[i].1)).mono (Nat.dvd_refl _) (Nat.mul_le_mul_left _ (Nat.le_trans (big_le h1.tree) hn)))
/-- the numbers of the mean -/
theorem mean_nums {n m t : Nat} {L : FR} (ok : OkL n m (360360 ^ t) (bb t) (15 ^ t) L) (hn : n ≤ 7) (ht : t ≤ 5) {i : Nat} {e : Fam × Rat2} (he : L[i]? = some e) :
    e.2.1 < 2 ^ 900 ∧ e.2.2 < 2 ^ 900 ∧ 0 < e.2.2 ∧ big e.1 ≤ 7 ∧ (low (e.2.1 * big e.1) e.2.2).1 < 2 ^ 1000 ∧ (low (e.2.1 * big e.1) e.2.2).2 < 2 ^ 1000 ∧ 0 < (low (e.2.1 * big e.1) e.2.2).2 ∧
    (meanL (L.take i)).1 < 2 ^ 1000 ∧ (meanL (L.take i)).2 < 2 ^ 1000 ∧ 0 < (meanL (L.take i)).2 := by
  obtain ⟨h1, h2, h3⟩ := ok.good e (List.mem_of_getElem? he)
  have hl := (List.getElem?_eq_some_iff.mp he).1
  have hN := ok.len
  have hd : 360360 ^ t ∣ 360360 ^ (t + 1) := Nat.pow_dvd_pow _ (Nat.le_succ _)
  have h15 : 15 ^ t ≤ 15 ^ (t + 1) := Nat.pow_le_pow_right (by decide) (by omega)
  have hp : 1 ≤ 15 ^ (t + 1) := Nat.pow_pos (by decide)
  have hb : big e.1 ≤ 7 := Nat.le_trans (big_le h1.tree) hn
  have s1 := num_small (t := t) (c := 1) ht (by omega) (by rw [Nat.mul_one]; exact h3.mono hd (Nat.le_refl _))
  have r2 := (h3.times (m := big e.1)).mono hd (Nat.le_refl _)
  have s2 := num_small (t := t) ht (by omega) r2
  have r3 := (mean_rb ok hn i (by omega)).mono hd (Nat.le_refl _)
  have s3 := num_small (t := t) ht (by omega) r3
  exact ⟨s1.1, s1.2, h3.pos, hb, lt1000 s2.1, lt1000 s2.2, r2.pos, lt1000 s3.1, lt1000 s3.2, r3.pos⟩
/-- the first of the likeliest -/
def bestStep (b : Option (Fam × Rat2)) (e : Fam × Rat2) : Option (Fam × Rat2) :=
  match b with
  | none => some e
  | some b => if b.2.1 * e.2.2 < e.2.1 * b.2.2 then some e else some b
def bestL (L : FR) : Option (Fam × Rat2) := L.foldl bestStep none
theorem bestL_snoc (L : FR) (e : Fam × Rat2) : bestL (L ++ [e]) = bestStep (bestL L) e := by
  unfold bestL
  rw [List.foldl_append]
  rfl
theorem dd_rev' {α : Type} {P : List α → Prop} (h0 : P []) (h1 : ∀ c x, P c → P (c ++ [x])) : ∀ c, P c := by
  intro c
  rw [← List.reverse_reverse c]
  generalize c.reverse = r
  induction r with
  | nil => exact h0
  | cons x r ih => rw [List.reverse_cons]; exact h1 _ _ ih
theorem bestL_none {L : FR} (h : bestL L = none) {e : Fam × Rat2} (he : e ∈ L) : False := by
  rcases List.eq_nil_or_concat L with rfl | ⟨l, x, rfl⟩
  · cases he
  · rw [List.concat_eq_append, bestL_snoc] at h
    cases hb : bestL l with
    | none => rw [hb] at h; cases h
    | some b =>
      rw [hb] at h
      have h : (if b.2.1 * x.2.2 < x.2.1 * b.2.2 then some x else some b) = none := h
      split at h <;> cases h
theorem bestL_mem {L : FR} {b : Fam × Rat2} : bestL L = some b → b ∈ L := by
  refine dd_rev' (P := fun L => bestL L = some b → b ∈ L) (fun h => nomatch h) (fun L e ih h => ?_) L
  rw [bestL_snoc] at h
  rw [List.mem_append, List.mem_singleton]
  cases hb : bestL L with
  | none => rw [hb] at h; exact .inr (Option.some.inj h).symm
  | some c =>
    rw [hb] at h
    have h : (if c.2.1 * e.2.2 < e.2.1 * c.2.2 then some e else some c) = some b := h
    split at h
    · exact .inr (Option.some.inj h).symm
    · exact .inl (ih (by rw [hb]; exact h))
section
variable {P : Program} {w : World} {K : PySem.W.Frag} {mg : Str → Option Value} {base : Heap}
def sp_chances : Sp := fun vs H Q _ => ∃ (v : V) (F : Fam) (n t : Nat), vs = [v, vN t] ∧ Tq H v (encF F) ∧ GoodF n F ∧ t < F.length ∧ ∀ v' H', Same H H' → Tq H' v' (encL (srt (blind F t))) → Q v' H'
theorem sc_chances : FnScope ["family", "times"] ["family", "times"] (defScope s_chances) := ⟨rfl, rfl, rfl, by decide +kernel, rfl, by decide +kernel, by decide +kernel⟩
theorem ok_chances (T : Bt mg) (C1 : Cal P w K mg base 7 "need_blind" sp_need_blind []) (C2 : Cal P w K mg base 4 "after" (sp_blind P w) []) (D : DefAt K mg "chances" s_chances ["family", "times"]) : Cal P w K mg base 8 "chances" sp_chances [] := by
  refine cal_ok D sc_chances (fun vs H Q E h => ?_) (fun f cdv A outer s H vs Q E hr h => ?_)
  · obtain ⟨v, F, n, t, rfl, _⟩ := h
    rfl
  · obtain ⟨v, F, n, t, rfl, hv, g, ht, q⟩ := h
    refine ⟨_, pss_cons (ps_expr (pe_c C1 hr (by decide) (by rfl) (pa2 (pv 0) (pv 1))))
      (pss_one (ps_ret (x_tuple T (x_sorted T (cr_sortIN rfl (hu14 hr)) (pe_itemsN (pe_c C2 hr (by decide) (by rfl) (pa2 (pv 0) (pv 1)))))))), ?_⟩
    refine ⟨_, rfl, _, rfl, v, F, n, t, rfl, hv, g, ht, fun H1 s1 => ?_⟩
    refine ⟨_, rfl, _, rfl, v, F, n, t, rfl, hv.mono s1.tt, g, ht, fun d o xs H2 s2 dr => ?_⟩
    refine ⟨d, o, xs, rfl, dr.nd.ob, fun p hp => ?_⟩
    have s3 := Same.new (o := L2.DX.itemsO p d) hp
    refine ⟨p, d, o, xs, blind F t, rfl, upd_same, dr.same s3, fun H4 l ys s4 hl hl4 hq => ?_⟩
    refine ⟨l, ys, rfl, .inl ⟨sqL hl4, fun k hk => ?_⟩⟩
    have s5 := Same.new (o := .tup ys) hk
    exact q _ _ ((((s1.trans s2).trans s3).trans s4).trans s5) (.tup upd_same (Tqs.mono s5.tt hq))

/-- last_pair -/
def sp_last_pair : Sp := fun vs H Q _ => ∃ (v : V) (F : Fam) (n : Nat), vs = [v] ∧ Tq H v (encF F) ∧ GoodF n F ∧ ∀ v' H', Same H H' → Tq H' v' (if F.length < 2 then .tuple [] else encL (srt (blind F (F.length - 2)))) → Q v' H'
theorem sc_last_pair : FnScope ["family"] ["family"] (defScope s_last_pair) := ⟨rfl, rfl, rfl, by decide +kernel, rfl, by decide +kernel, by decide +kernel⟩
theorem ok_last_pair (T : Bt mg) (MB : ∃ u, mg "MOST_BAGS" = some u ∧ RelV (.int 8) u) (C1 : Cal P w K mg base 6 "need_few" sp_need_few []) (C2 : Cal P w K mg base 4 "after" (sp_blind P w) []) (D : DefAt K mg "last_pair" s_last_pair ["family"]) : Cal P w K mg base 8 "last_pair" sp_last_pair [] := by
  refine cal_ok D sc_last_pair (fun vs H Q E h => ?_) (fun f cdv A outer s H vs Q E hr h => ?_)
  · obtain ⟨v, F, n, rfl, _⟩ := h
    rfl
  · obtain ⟨v, F, n, rfl, hv, g, q⟩ := h
    have hv0 := hv
    obtain ⟨a, xs, rfl, ha, hx⟩ := hv.fam
    have hxl : xs.length = F.length := by rw [hx.len, List.length_map]
    refine ⟨_, pss_cons (ps_expr (pe_c C1 hr (by decide) (by rfl) (pa2 (pv 0) (pe_gc (by rfl) MB))))
      (pss_cons (ps_if (pt_cmp (pc_lt (x_len T (pv 0)) pe_int)) (pss_one (ps_ret (pe_tup pa_nil))) pss_nil)
      (pss_one (ps_ret (x_tuple T (x_sorted T (cr_sortIN rfl (hu14 hr)) (pe_itemsN (pe_c C2 hr (by decide) (by rfl) (pa2 (pv 0) (pe_op op_sub (x_len T (pv 0)) pe_int))))))))), ?_⟩
    refine ⟨_, rfl, _, F, n, 8, rfl, hv0, g, by decide, fun H1 s1 => ?_⟩
    refine ⟨_, rfl, a, xs, rfl, .inr (sqT (s1 _ _ ha)), _, _, rfl, rfl, _, rfl, ?_⟩
    by_cases h2 : F.length < 2
    · rw [if_pos h2] at q
      refine iteDT (by omega) ⟨(by show 0 ≤ sizeLine; decide), fun k hk => ?_⟩
      exact q _ _ (s1.trans (Same.new (o := .tup []) hk)) (.tup upd_same .nil)
    · rw [if_neg h2] at q
      refine iteDF (by omega) ?_
      have e : V.int ((xs.length : Int) - 2) = vN (F.length - 2) := by
        have : ((xs.length : Int) - 2) = ((F.length - 2 : Nat) : Int) := by omega
        rw [this]
      refine ⟨_, rfl, _, rfl, a, xs, rfl, .inr (sqT (s1 _ _ ha)), _, _, rfl, rfl, .ref a, F, n, F.length - 2, congrArg (fun x => [V.ref a, x]) e, hv0.mono s1.tt, g, by omega, fun d o zs H2 s2 dr => ?_⟩
      refine ⟨d, o, zs, rfl, dr.nd.ob, fun p hp => ?_⟩
      have s3 := Same.new (o := L2.DX.itemsO p d) hp
      refine ⟨p, d, o, zs, _, rfl, upd_same, dr.same s3, fun H4 l ys s4 hl hl4 hq => ?_⟩
      refine ⟨l, ys, rfl, .inl ⟨sqL hl4, fun k hk => ?_⟩⟩
      have s5 := Same.new (o := .tup ys) hk
      exact q _ _ ((((s1.trans s2).trans s3).trans s4).trans s5) (.tup upd_same (Tqs.mono s5.tt hq))

/-- mean_greatest -/
def sp_mean : Sp := fun vs H Q _ => ∃ (v : V) (F : Fam) (n t : Nat), vs = [v, vN t] ∧ Tq H v (encF F) ∧ GoodF n F ∧ t < F.length ∧ ∀ v' H', Same H H' → Tq H' v' (encR (meanL (blind F t))) → Q v' H'
theorem sc_mean_greatest : FnScope ["family", "times", "found", "here", "share", "bag"] ["family", "times"] (defScope s_mean_greatest) := ⟨rfl, rfl, rfl, by decide +kernel, rfl, by decide +kernel, by decide +kernel⟩
theorem ok_mean_greatest (T : Bt mg) (C1 : Cal P w K mg base 7 "need_blind" sp_need_blind []) (C2 : Cal P w K mg base 4 "after" (sp_blind P w) []) (C3 : Cal P w K mg base 3 "plus" sp_plus []) (C4 : Cal P w K mg base 2 "lowered" sp_lowered [])
    (D : DefAt K mg "mean_greatest" s_mean_greatest ["family", "times"]) : Cal P w K mg base 8 "mean_greatest" sp_mean [] := by
  refine cal_ok D sc_mean_greatest (fun vs H Q E h => ?_) (fun f cdv A outer s H vs Q E hr h => ?_)
  · obtain ⟨v, F, n, t, rfl, _⟩ := h
    rfl
  · obtain ⟨v, F, n, t, rfl, hv, g, ht, q⟩ := h
    have nd := sc_mean_greatest.nd
    have hfew := g.tree.few
    have hn7 := g.few
    have ht5 : t ≤ 5 := by omega
    refine ⟨_, pss_cons (ps_expr (pe_c C1 hr (by decide) (by rfl) (pa2 (pv 0) (pv 1))))
      (pss_cons (ps_set (i := 2) nd rfl (Or.inl rfl) (pe_tup (pa2 pe_int pe_int)))
      (pss_cons (ps_for PassesOwn.never rfl (pi_itemsN (pe_c C2 hr (by decide) (by rfl) (pa2 (pv 0) (pv 1)))) (pg_tup (n := 2) rfl (pgs_cons (pg_name (i := 3) nd rfl (Or.inl rfl)) (pgs_cons (pg_name (i := 4) nd rfl (Or.inl rfl)) pgs_nil)))
        (pss_one (ps_set (i := 2) nd rfl (Or.inl rfl) (pe_c C3 hr (by decide) (by rfl) (pa2 (pv 2) (pe_c C4 hr (by decide) (by rfl) (pa2
          (pe_op op_mulW (x_ixT (pv 4) pe_int (fun _ _ => rfl)) (x_max T rfl (pe_lc (own := [("bag", 5)]) (g := gName 5) (tt := tYes) (te := tCB (fun xs H Q => ∃ p ys, xs = [.ref p] ∧ (SqL K H p ys ∨ SqT K H p ys) ∧ Q (.int ys.length) H) (tCons (tVar 5) tNil)) (by rfl) nd (pi_tup (pv 3))
            (blkOk_by (N := ["family", "times", "found", "here", "share", "bag"]) (sc := defScope s_mean_greatest) (by decide +kernel)) (fun _ _ _ _ _ => pgn (i := 5) nd rfl rfl) (fun _ _ _ _ _ => pts_nil) (fun _ _ _ _ _ => x_len T (pv 5)))))
          (x_ixT (pv 4) pe_int (fun _ _ => rfl)))))))))
      (pss_one (ps_ret (pv 2))))), ?_⟩
    refine ⟨_, rfl, _, rfl, v, F, n, t, rfl, hv, g, ht, fun H1 s1 => ?_⟩
    refine ⟨(by show 2 ≤ sizeLine; decide), fun z0 hz0 => ?_⟩
    have s2 := s1.trans (Same.new (o := .tup [V.int 0, V.int 1]) hz0)
    refine ⟨_, rfl, _, rfl, v, F, n, t, rfl, hv.mono s2.tt, g, ht, fun d o xs H3 s3 dr => ?_⟩
    obtain ⟨ok, _⟩ := blind_ok g t ht
    generalize hL : blind F t = L at ok dr q
    refine ⟨d, o, xs, rfl, dr.nd.ob, ?_⟩
    refine for_it walk_itemsN (fun i σ H4 => ∃ y2 y3 y4 y5, σ = [some v, some (vN t), some y2, y3, y4, y5] ∧ Same H3 H4 ∧ Tq H4 y2 (encR (meanL (L.take i)))) ⟨_, _, _, _, rfl, Same.refl _, (Tq.ofRat (r := (0, 1)) (s3 _ _ upd_same))⟩ (fun i σ H4 _ h => by
      obtain ⟨_, _, _, _, _, s, _⟩ := h
      exact s _ _ dr.nd.ob) ?_ ?_
    · rintro i z σ H4 H5 hi ⟨y2, y3, y4, y5, rfl, s4, hm⟩ ⟨T0, y, hy, rfl, hT0, rfl⟩
      obtain ⟨e, he, ey1, ey2⟩ := dr.rel.getP hy
      have hkey := dr.nd.ks y (List.mem_of_getElem? hy)
      rw [ey1] at hkey
      obtain ⟨ge, gl, gr⟩ := ok.good e (List.mem_of_getElem? he)
      obtain ⟨n1, n2, n3, n4, n5, n6, n7, n8, n9, n10⟩ := mean_nums ok hn7 ht5 he
      have s5 := s4.trans (Same.new (o := .tup [V.ref y.2.1, V.ref y.2.2]) hT0)
      refine ⟨T0, [V.ref y.2.1, V.ref y.2.2], rfl, sqT upd_same, rfl, _, _, rfl, _, _, rfl, rfl, ?_⟩
      obtain ⟨sa, esa, hsa⟩ := (ey2.mono s5.tt).rat
      have hm5 := hm.mono (TT.new (o := .tup [V.ref y.2.1, V.ref y.2.2]) hT0)
      obtain ⟨ka, kxs, eka, hka, hkx⟩ := (hkey.mono s5.tt).fam
      have hkl : kxs.length = e.1.length := by rw [hkx.len, List.length_map]
      have hefew := ge.tree.few
      refine ⟨_, rfl, _, rfl, sa, _, 0, _, esa, rfl, sqT hsa, rfl, ?_⟩
      refine ⟨_, rfl, ka, eka, ⟨_, sqT hka⟩, fun D0 hD => ?_⟩
      refine lc_map (walk_tup (xs := kxs)) (fun i y _ => ∃ b, e.1[i]? = some b ∧ y = V.int ((b.length : Nat) : Int)) hD (sz1000 (by omega)) (fun _ _ _ _ _ h => h) (fun H' s => sqT (s _ _ hka)) ?_ ?_
      · rintro i x H6 H7 hi s7 ⟨rfl, e1⟩ K0 hK
        obtain ⟨b, hb1, hb2⟩ := hkx.at e1
        obtain ⟨c, rfl, hc⟩ := (hb2.mono s7.tt).bag
        refine ⟨rfl, _, rfl, c, b.map vN, rfl, .inr (sqT hc), ?_⟩
        rw [List.length_map]
        exact hK _ _ (Same.refl _) ⟨b, hb1, rfl⟩
      · intro H7 ys s7 eD pr
        rw [hkl] at pr
        have eb := paired_ints (f := fun b : Bag => ((b.length : Nat) : Int)) (paired_map pr)
        refine ⟨D0, e.1.map fun b => ((b.length : Nat) : Int), rfl, sqL (by rw [eD, eb]), by rw [List.length_map]; exact List.length_pos_iff.mpr ge.tree.ne_nil, fun m hm hu => ?_⟩
        have em := big_is ge.tree.ne_nil hm hu
        subst em
        refine ⟨_, _, rfl, rfl, wide_mul (a := 900) (b := 10) (nabs n1) (nabs (by omega)) (by decide) (by decide) (by decide), ?_⟩
        refine ⟨_, rfl, sa, _, 1, _, esa, rfl, sqT (s7 _ _ hsa), rfl, ?_⟩
        refine ⟨e.2.1 * big e.1, e.2.2, rfl, n3, Nat.lt_of_lt_of_le n2 (Nat.pow_le_pow_right (by decide) (by decide)), fun lv H8 s8 hlv => ?_⟩
        refine ⟨y2, lv, _, _, rfl, hm5.mono (s7.trans s8).tt, hlv, n10, n7, n8, n9, n5, n6, fun rv H9 s9 hrv => ?_⟩
        refine ⟨_, _, _, _, rfl, ((s5.trans s7).trans s8).trans s9, ?_⟩
        rw [take_snoc he, meanL_snoc]
        exact hrv
    · rintro σ H4 ⟨y2, y3, y4, y5, rfl, s4, hm⟩
      rw [dr.rel.lenP, List.take_length] at hm
      exact ⟨_, rfl, q _ _ ((s2.trans s3).trans s4) hm⟩

/-- likeliest -/
def sp_likeliest : Sp := fun vs H Q _ => ∃ (v : V) (F : Fam) (n t : Nat), vs = [v, vN t] ∧ Tq H v (encF F) ∧ GoodF n F ∧ t < F.length ∧ ∀ v' H' b, bestL (srt (blind F t)) = some b → Same H H' → Tq H' v' (encF b.1) → Q v' H'
theorem sc_likeliest : FnScope ["family", "times", "best", "here", "share"] ["family", "times"] (defScope s_likeliest) := ⟨rfl, rfl, rfl, by decide +kernel, rfl, by decide +kernel, by decide +kernel⟩
theorem ok_likeliest (T : Bt mg) (C1 : Cal P w K mg base 7 "need_blind" sp_need_blind []) (C2 : Cal P w K mg base 4 "after" (sp_blind P w) []) (D : DefAt K mg "likeliest" s_likeliest ["family", "times"]) : Cal P w K mg base 8 "likeliest" sp_likeliest [] := by
  refine cal_ok D sc_likeliest (fun vs H Q E h => ?_) (fun f cdv A outer s H vs Q E hr h => ?_)
  · obtain ⟨v, F, n, t, rfl, _⟩ := h
    rfl
  · obtain ⟨v, F, n, t, rfl, hv, g, ht, q⟩ := h
    have nd := sc_likeliest.nd
    have hfew := g.tree.few
    have hn7 := g.few
    have ht5 : t ≤ 5 := by omega
    refine ⟨_, pss_cons (ps_expr (pe_c C1 hr (by decide) (by rfl) (pa2 (pv 0) (pv 1))))
      (pss_cons (ps_set (i := 2) nd rfl (Or.inl rfl) pe_non)
      (pss_cons (ps_for PassesOwn.never rfl (pi_list (x_sorted T (cr_sortIN rfl (hu14 hr)) (pe_itemsN (pe_c C2 hr (by decide) (by rfl) (pa2 (pv 0) (pv 1)))))) (pg_tup (n := 2) rfl (pgs_cons (pg_name (i := 3) nd rfl (Or.inl rfl)) (pgs_cons (pg_name (i := 4) nd rfl (Or.inl rfl)) pgs_nil)))
        (pss_one (ps_if (PW.pt (pw_or (pt_cmp (pc_isN (pv 2))) (pw_or1 (pt_cmpR op_gt (pe_op op_mulW (x_ixT (pv 4) pe_int (fun _ _ => rfl)) (x_ixT (x_ixT (pv 2) pe_int (fun _ _ => rfl)) pe_int (fun _ _ => rfl)))
            (pe_op op_mulW (x_ixT (x_ixT (pv 2) pe_int (fun _ _ => rfl)) pe_int (fun _ _ => rfl)) (x_ixT (pv 4) pe_int (fun _ _ => rfl))) (nomark _)))))
          (pss_one (ps_set (i := 2) nd rfl (Or.inl rfl) (pe_tup (pa2 (pv 3) (pv 4))))) pss_nil)))
      (pss_one (ps_ret (x_ixT (pv 2) pe_int (fun _ _ => rfl)))))), ?_⟩
    refine ⟨_, rfl, _, rfl, v, F, n, t, rfl, hv, g, ht, fun H1 s1 => ?_⟩
    refine ⟨_, rfl, _, rfl, v, F, n, t, rfl, hv.mono s1.tt, g, ht, fun d o xs H2 s2 dr => ?_⟩
    obtain ⟨ok, hne⟩ := blind_ok g t ht
    generalize hL : blind F t = L at ok dr q hne
    refine ⟨d, o, xs, rfl, dr.nd.ob, fun p hp => ?_⟩
    have s3 := Same.new (o := L2.DX.itemsO p d) hp
    refine ⟨p, d, o, xs, L, rfl, upd_same, dr.same s3, fun H4 l ys s4 hl hl4 hq => ?_⟩
    have s5 := ((s1.trans s2).trans s3).trans s4
    have hS : ∀ e, e ∈ srt L → e ∈ L := fun e he => List.mem_mergeSort.mp he
    have hq : Tqs H4 ys ((srt L).map encI) := hq
    have hyl : ys.length = (srt L).length := by rw [hq.len, List.length_map]
    have small : ∀ e, e ∈ L → e.2.1 < 2 ^ 900 ∧ e.2.2 < 2 ^ 900 := fun e he => by
      obtain ⟨i, hi⟩ := List.mem_iff_getElem?.mp he
      obtain ⟨n1, n2, _⟩ := mean_nums ok hn7 ht5 hi
      exact ⟨n1, n2⟩
    refine ⟨l, rfl, ⟨_, sqL hl4⟩, ?_⟩
    refine for_it (walk_list (xs := ys)) (fun i σ H5 => ∃ y2 y3 y4, σ = [some v, some (vN t), some y2, y3, y4] ∧ Same H4 H5 ∧ ((bestL ((srt L).take i) = none ∧ y2 = .non) ∨ ∃ b, bestL ((srt L).take i) = some b ∧ Tq H5 y2 (encI b))) ⟨_, _, _, rfl, Same.refl _, .inl ⟨rfl, rfl⟩⟩ (fun i σ H5 _ h => by
      obtain ⟨_, _, _, _, s, _⟩ := h
      exact sqL (s _ _ hl4)) ?_ ?_
    · rintro i z σ H5 H6 hi ⟨y2, y3, y4, rfl, s6, hb⟩ ⟨rfl, ez⟩
      obtain ⟨e, he, heq⟩ := hq.at ez
      have heL := hS e (List.mem_of_getElem? he)
      obtain ⟨g1, g2, g3⟩ := ok.good e heL
      obtain ⟨ia, y, zz, rfl, hia, hy, hz⟩ := (heq.mono s6.tt).item
      obtain ⟨sa, rfl, hsa⟩ := hz.rat
      refine ⟨ia, [y, .ref sa], rfl, sqT hia, rfl, _, _, rfl, _, _, rfl, rfl, ?_⟩
      have put : ∀ {H7 : Hp}, Same H6 H7 → bestL ((srt L).take (i + 1)) = some e → (2 ≤ sizeLine ∧ ∀ k, H7 k = none → ∃ y2 y3 y4, [some v, some (vN t), some (V.ref k), some y, some (V.ref sa)] = [some v, some (vN t), some y2, y3, y4] ∧ Same H4 (upd H7 k (.tup [y, .ref sa])) ∧ ((bestL ((srt L).take (i + 1)) = none ∧ y2 = .non) ∨ ∃ b, bestL ((srt L).take (i + 1)) = some b ∧ Tq (upd H7 k (.tup [y, .ref sa])) y2 (encI b))) := fun {H7} s7 hbe => by
        refine ⟨by decide, fun k hk => ⟨_, _, _, rfl, (s6.trans s7).trans (Same.new hk), .inr ⟨e, hbe, ?_⟩⟩⟩
        have tt := s7.tt.trans (TT.new (o := .tup [y, .ref sa]) hk)
        exact .tup upd_same (.cons (hy.mono tt) (.cons (hz.mono tt) .nil))
      rw [take_snoc he, bestL_snoc] at put ⊢
      refine ⟨_, rfl, _, rfl, ?_⟩
      rcases hb with ⟨h1, rfl⟩ | ⟨b, h1, hbq⟩
      · rw [h1] at put ⊢
        refine iteDT rfl ?_
        exact ⟨_, rfl, _, rfl, put (Same.refl _) rfl⟩
      · rw [h1] at put ⊢
        have hbL := hS b (List.mem_of_mem_take (bestL_mem h1))
        obtain ⟨k1, k2⟩ := small b hbL
        obtain ⟨m1, m2⟩ := small e heL
        obtain ⟨ba, by1, bz, rfl, hba, hby, hbz⟩ := hbq.item
        obtain ⟨bs, rfl, hbs⟩ := hbz.rat
        refine iteDF (fun z => nomatch z) ?_
        refine ⟨_, rfl, sa, _, 0, _, rfl, rfl, sqT hsa, rfl, ?_⟩
        refine ⟨_, rfl, ba, _, 1, _, rfl, rfl, sqT hba, rfl, bs, _, 1, _, rfl, rfl, sqT hbs, rfl, ?_⟩
        refine ⟨_, _, rfl, rfl, wide_mul (a := 900) (b := 900) (nabs m1) (nabs k2) (by decide) (by decide) (by decide), ?_⟩
        refine ⟨_, rfl, ba, _, 1, _, rfl, rfl, sqT hba, rfl, bs, _, 0, _, rfl, rfl, sqT hbs, rfl, ?_⟩
        refine ⟨_, rfl, sa, _, 1, _, rfl, rfl, sqT hsa, rfl, ?_⟩
        refine ⟨_, _, rfl, rfl, wide_mul (a := 900) (b := 900) (nabs k1) (nabs m2) (by decide) (by decide) (by decide), ?_⟩
        refine ⟨_, _, rfl, rfl, _, rfl, ?_⟩
        by_cases hlt : b.2.1 * e.2.2 < e.2.1 * b.2.2
        · have es : bestStep (some b) e = some e := if_pos hlt
          refine iteDT ?_ ?_
          · show ((b.2.1 : Nat) : Int) * (e.2.2 : Nat) < ((e.2.1 : Nat) : Int) * (b.2.2 : Nat)
            rw [nat_mul, nat_mul]
            omega
          · exact ⟨_, rfl, _, rfl, put (Same.refl _) es⟩
        · have es : bestStep (some b) e = some b := if_neg hlt
          refine iteDF ?_ ?_
          · show ¬ ((b.2.1 : Nat) : Int) * (e.2.2 : Nat) < ((e.2.1 : Nat) : Int) * (b.2.2 : Nat)
            rw [nat_mul, nat_mul]
            omega
          · exact ⟨_, _, _, rfl, s6, .inr ⟨b, es, hbq⟩⟩
    · rintro σ H5 ⟨y2, y3, y4, rfl, s6, hb⟩
      rw [hyl, List.take_length] at hb
      rcases hb with ⟨h1, rfl⟩ | ⟨b, h1, hbq⟩
      · exfalso
        obtain ⟨e, he⟩ := List.exists_mem_of_ne_nil _ hne
        have he2 : e ∈ srt L := List.mem_mergeSort.mpr he
        exact bestL_none h1 he2
      · obtain ⟨ba, by1, bz, rfl, hba, hby, hbz⟩ := hbq.item
        exact ⟨_, rfl, ba, _, 0, _, rfl, rfl, sqT hba, rfl, q _ _ b h1 (s5.trans s6) hby⟩
end
end L2.SB
/-! The law's own: _law_taken, _law_pick. -/
namespace L2.SB
open PySem PySem.Spec PyProof.Rows Sb
open PySem.W (alike dataLt dataLe)
open C8 (Cal pe_c pe_gc)

abbrev s_ltaken : Stmt := top 37
abbrev s_lpick : Stmt := top 38
/-- all but the row stays -/
def But (r : Addr) (H H' : Hp) : Prop := ∀ b u, b ≠ r → H b = some u → H' b = some u
theorem But.refl (r : Addr) (H : Hp) : But r H H := fun _ _ _ h => h
theorem But.trans {r : Addr} {H H1 H2 : Hp} (a : But r H H1) (b : But r H1 H2) : But r H H2 := fun c u n h => b c u n (a c u n h)
theorem But.upd {r : Addr} {H : Hp} {o : HO} : But r H (upd H r o) := fun b u n h => by rw [upd_ne n]; exact h
theorem But.of {r : Addr} {H H' : Hp} (s : Same H H') : But r H H' := fun b u _ h => s b u h
theorem But.rd {r : Addr} {H H' : Hp} (s : But r H H') {a : Addr} {u : HO} (n : a ≠ r) (h : Rd H a u) : Rd H' a u := by
  rcases h with h | ⟨o, h⟩
  · exact .inl (s _ _ n h)
  · exact .inr ⟨o, s _ _ n h⟩
/-- the script, beside the row -/
def Scr (K : PySem.W.Frag) (H : Hp) (r sc : Addr) (xs : List V) : Prop :=
  (Rd H sc (.lst xs) ∧ sc ≠ r) ∨ ∃ (o : Obj) (its : Array Value) (n : Nat), K.lookup sc = some o ∧ o.cls = .type "list" ∧ o.dict = none ∧ o.data = .seq its n ∧ its.size ≤ sizeLine ∧ Vals xs its.toList
theorem Scr.sq {K : PySem.W.Frag} {H : Hp} {r sc : Addr} {xs : List V} (h : Scr K H r sc xs) : SqL K H sc xs := by
  rcases h with ⟨h, _⟩ | h
  · exact .inl h
  · exact .inr h
theorem Scr.but {K : PySem.W.Frag} {H H' : Hp} {r sc : Addr} {xs : List V} (h : Scr K H r sc xs) (s : But r H H') : Scr K H' r sc xs := by
  rcases h with ⟨h, n⟩ | h
  · exact .inl ⟨s.rd n h, n⟩
  · exact .inr h
theorem Scr.new {K : PySem.W.Frag} {H : Hp} {r sc : Addr} {xs : List V} (h : SqL K H sc xs) (hr : H r = none) : Scr K H r sc xs := by
  rcases h with h | h
  · refine .inl ⟨h, fun z => ?_⟩
    subst z
    rcases h with h | ⟨o, h⟩ <;> rw [hr] at h <;> cases h
  · exact .inr h
/-- the row -/
def RowAt (K : PySem.W.Frag) (H : Hp) (r sc : Addr) (ns : List Int) : Prop := ∃ (i : Nat) (z c : Int), Scr K H r sc (ns.map V.int) ∧ H r = some (.lst [.ref sc, .int (i : Int), .int z, .int c]) ∧ 0 ≤ z ∧ z < 2 ^ 31
theorem RowAt.keep {K : PySem.W.Frag} {H H' : Hp} {r sc : Addr} {ns : List Int} (h : RowAt K H r sc ns) (s : Same H H') : RowAt K H' r sc ns := by
  obtain ⟨i, z, c, h1, h2, h3⟩ := h
  exact ⟨i, z, c, h1.but (But.of s), s _ _ h2, h3⟩
theorem RowAt.re {K : PySem.W.Frag} {H0 H3 H4 : Hp} {r sc : Addr} {ns : List Int} (h : RowAt K H0 r sc ns) (b : But r H0 H4) (h3 : RowAt K H3 r sc ns) (e : H4 r = H3 r) : RowAt K H4 r sc ns := by
  obtain ⟨_, _, _, h1, _⟩ := h
  obtain ⟨i, z, c, _, h2, h5⟩ := h3
  exact ⟨i, z, c, h1.but b, e.trans h2, h5⟩
theorem RowAt.some {K : PySem.W.Frag} {H : Hp} {r sc : Addr} {ns : List Int} (h : RowAt K H r sc ns) : ∃ u, H r = some u := by
  obtain ⟨_, _, _, _, h2, _⟩ := h
  exact ⟨_, h2⟩
section
variable {P : Program} {w : World} {K : PySem.W.Frag} {mg : Str → Option Value} {base : Heap}
def sp_taken (K : PySem.W.Frag) : Sp := fun vs H Q _ => ∃ (r sc : Addr) (sn : List Int) (m : Nat), vs = [.ref r, vN m] ∧ 0 < m ∧ m ≤ 1000 ∧ RowAt K H r sc sn ∧ ∀ k H', k < m → RowAt K H' r sc sn → But r H H' → Q (vN k) H'
theorem sc_ltaken : FnScope ["_law_row", "_law_many", "_law_found", "_law_cell"] ["_law_row", "_law_many"] (defScope s_ltaken) := ⟨rfl, rfl, rfl, by decide +kernel, rfl, by decide +kernel, by decide +kernel⟩
theorem mod_vN {x : Int} {m : Nat} (h : 0 < m) : ∃ k, k < m ∧ V.int (x % (m : Int)) = vN k := by
  have h1 := Int.emod_nonneg x (b := (m : Int)) (by omega)
  have h2 := Int.emod_lt_of_pos x (b := (m : Int)) (by omega)
  refine ⟨(x % (m : Int)).toNat, by omega, ?_⟩
  have : ((x % (m : Int)).toNat : Int) = x % (m : Int) := Int.toNat_of_nonneg h1
  show V.int (x % (m : Int)) = V.int (((x % (m : Int)).toNat : Nat) : Int)
  rw [this]
theorem ok_ltaken (T : Bt mg) (D : DefAt K mg "_law_taken" s_ltaken ["_law_row", "_law_many"]) : Cal P w K mg base 1 "_law_taken" (sp_taken K) [] := by
  refine cal_ok D sc_ltaken (fun vs H Q E h => ?_) (fun f cdv A outer s H vs Q E hr h => ?_)
  · obtain ⟨r, sc, ns, m, rfl, _⟩ := h
    rfl
  · obtain ⟨r, sc, ns, m, rfl, hm, hm1, ⟨i, z, c, hs, hrow, hz0, hz1⟩, q⟩ := h
    have nd := sc_ltaken.nd
    refine ⟨_, pss_cons (ps_if (pt_cmp (pc_gt (x_ixL (pv 0) pe_int (fun _ _ => rfl)) pe_int))
        (pss_cons (ps_set (i := 2) nd rfl (Or.inl rfl) (pe_op op_mod (x_int T (x_ixL (pv 0) pe_int (fun _ _ => rfl))) (pv 1)))
        (pss_cons (ps_asg (pe_op op_fdivW (x_ixL (pv 0) pe_int (fun _ _ => rfl)) (pv 1)) (pg_sub (pv 0) pe_int set_list))
        (pss_one (ps_ret (pv 2))))) pss_nil)
      (pss_cons (ps_asg (pe_op op_add (x_ixL (pv 0) pe_int (fun _ _ => rfl)) pe_int) (pg_sub (pv 0) pe_int set_list))
      (pss_cons (ps_if (pt_cmp (pc_gt (x_ixL (pv 0) pe_int (fun _ _ => rfl)) (x_len T (x_ixL (pv 0) pe_int (fun _ _ => rfl)))))
        (pss_cons (ps_asg (pe_op op_mod (x_int T (pe_op op_add (pe_op op_mulW (x_ixL (pv 0) pe_int (fun _ _ => rfl)) pe_int) pe_int)) pe_int) (pg_sub (pv 0) pe_int set_list))
        (pss_one (ps_ret (pe_op op_mod (x_int T (pe_op op_fdivW (x_ixL (pv 0) pe_int (fun _ _ => rfl)) pe_int)) (pv 1))))) pss_nil)
      (pss_cons (ps_set (i := 3) nd rfl (Or.inl rfl) (x_ixL (x_ixL (pv 0) pe_int (fun _ _ => rfl)) (pe_op op_sub (x_ixL (pv 0) pe_int (fun _ _ => rfl)) pe_int) (fun _ _ => rfl)))
      (pss_cons (ps_asg (pe_op op_mod (x_int T (pe_op op_add (pe_op op_add (pe_op op_mulW (x_ixL (pv 0) pe_int (fun _ _ => rfl)) pe_int) (pv 3)) pe_int)) pe_int) (pg_sub (pv 0) pe_int set_list))
      (pss_cons (ps_if (pt_cmp (pc_ge (pv 3) (pe_op op_pow pe_int pe_int)))
        (pss_one (ps_asg (pe_op op_fdivW (pv 3) (pv 1)) (pg_sub (pv 0) pe_int set_list))) pss_nil)
      (pss_one (ps_ret (pe_op op_mod (x_int T (pv 3)) (pv 1))))))))), ?_⟩
    have hW : ∀ x : Int, CDivW x ((m : Nat) : Int) := fun x => wide_div (b := 10) (by omega) (nabs (by omega)) (by decide) (by decide)
    have hmul : ∀ y : Int, 0 ≤ y → y < 2 ^ 31 → CMulW y 48271 := fun y h1 h2 => wide_mul (a := 31) (b := 16) (by omega) (by decide) (by decide) (by decide) (by decide)
    have hmod : ∀ x : Int, 0 ≤ x % 2147483647 ∧ x % 2147483647 < 2 ^ 31 := fun x => by omega
    refine ⟨_, rfl, r, _, 3, _, rfl, rfl, sqL hrow, rfl, _, _, rfl, rfl, _, rfl, ?_⟩
    by_cases hc : 0 < c
    · refine iteDT hc ?_
      refine ⟨_, rfl, r, _, 3, _, rfl, rfl, sqL hrow, rfl, .inl ⟨_, rfl, ?_⟩⟩
      refine ⟨_, rfl, _, _, rfl, rfl, (by show (0 : Int) < (m : Int); omega), ?_⟩
      refine ⟨_, rfl, r, _, 3, _, rfl, rfl, sqL hrow, rfl, _, rfl, _, _, rfl, rfl, hW _, ?_⟩
      refine ⟨_, rfl, r, _, 3, 3, rfl, rfl, hrow, rfl, ?_⟩
      obtain ⟨k, hk, ek⟩ := mod_vN (x := c) hm
      refine ⟨_, rfl, ?_⟩
      show Q (V.int (c % (m : Int))) _
      rw [ek]
      exact q k _ hk ⟨i, z, _, hs.but But.upd, upd_same, hz0, hz1⟩ But.upd
    · refine iteDF hc ?_
      -- row[1] = row[1] + 1
      refine ⟨_, rfl, r, _, 1, _, rfl, rfl, sqL hrow, rfl, _, _, rfl, rfl, ?_⟩
      refine ⟨_, rfl, r, _, 1, 1, rfl, rfl, hrow, rfl, ?_⟩
      have r1 : (upd H r (.lst ([V.ref sc, .int (i : Int), .int z, .int c].set 1 (.int ((i : Int) + 1))))) r = some (.lst [V.ref sc, .int ((i : Int) + 1), .int z, .int c]) := upd_same
      generalize eH1 : upd H r (.lst ([V.ref sc, .int (i : Int), .int z, .int c].set 1 (.int ((i : Int) + 1)))) = H1 at r1 ⊢
      have b1 : But r H H1 := by rw [← eH1]; exact But.upd
      have hs1 := hs.but b1
      refine ⟨_, rfl, r, _, 1, _, rfl, rfl, sqL r1, rfl, ?_⟩
      refine ⟨_, rfl, r, _, 0, _, rfl, rfl, sqL r1, rfl, sc, _, rfl, .inl hs1.sq, _, _, rfl, rfl, _, rfl, ?_⟩
      have ei : ((i : Int) + 1) = ((i + 1 : Nat) : Int) := by omega
      by_cases hlt : ((ns.map V.int).length : Int) < (i : Int) + 1
      · refine iteDT hlt ?_
        refine ⟨_, rfl, r, _, 2, _, rfl, rfl, sqL r1, rfl, _, _, rfl, rfl, hmul z hz0 hz1, _, _, rfl, rfl, .inl ⟨_, rfl, _, _, rfl, rfl, (by show (0 : Int) < 2147483647; decide), ?_⟩⟩
        refine ⟨_, rfl, r, _, 2, 2, rfl, rfl, r1, rfl, ?_⟩
        have r2 : (upd H1 r (.lst ([V.ref sc, .int ((i : Int) + 1), .int z, .int c].set 2 (.int ((z * 48271 + 11) % 2147483647))))) r = some (.lst [V.ref sc, .int ((i : Int) + 1), .int ((z * 48271 + 11) % 2147483647), .int c]) := upd_same
        generalize eH2 : upd H1 r (.lst ([V.ref sc, .int ((i : Int) + 1), .int z, .int c].set 2 (.int ((z * 48271 + 11) % 2147483647)))) = H2 at r2 ⊢
        have b2 : But r H H2 := by rw [← eH2]; exact b1.trans But.upd
        refine ⟨_, rfl, r, _, 2, _, rfl, rfl, sqL r2, rfl, _, _, rfl, rfl, wide_div (b := 10) (by decide) (by decide) (by decide) (by decide), .inl ⟨_, rfl, _, rfl, _, _, rfl, rfl, (by show (0 : Int) < (m : Int); omega), ?_⟩⟩
        obtain ⟨k, hk, ek⟩ := mod_vN (x := (z * 48271 + 11) % 2147483647 / 7) hm
        show Q (V.int ((z * 48271 + 11) % 2147483647 / 7 % (m : Int))) _
        rw [ek]
        rw [ei] at r2
        exact q k _ hk ⟨i + 1, _, c, hs.but b2, r2, (hmod _).1, (hmod _).2⟩ b2
      · refine iteDF hlt ?_
        rw [List.length_map] at hlt
        have hil : i < ns.length := by omega
        -- cell = row[0][row[1] - 1]
        refine ⟨_, rfl, r, _, 0, _, rfl, rfl, sqL r1, rfl, ?_⟩
        refine ⟨_, rfl, r, _, 1, _, rfl, rfl, sqL r1, rfl, _, _, rfl, rfl, sc, _, ((i : Int) + 1 - 1), .int ns[i], rfl, rfl, hs1.sq, at_of (j := i) (by omega) (by rw [List.getElem?_map, List.getElem?_eq_getElem hil]; rfl), ?_⟩
        generalize ns[i] = cell
        refine ⟨_, rfl, r, _, 2, _, rfl, rfl, sqL r1, rfl, _, _, rfl, rfl, hmul z hz0 hz1, _, rfl, _, _, rfl, rfl, _, _, rfl, rfl, .inl ⟨_, rfl, _, _, rfl, rfl, (by show (0 : Int) < 2147483647; decide), ?_⟩⟩
        refine ⟨_, rfl, r, _, 2, 2, rfl, rfl, r1, rfl, ?_⟩
        have r2 : (upd H1 r (.lst ([V.ref sc, .int ((i : Int) + 1), .int z, .int c].set 2 (.int ((z * 48271 + cell + 11) % 2147483647))))) r = some (.lst [V.ref sc, .int ((i : Int) + 1), .int ((z * 48271 + cell + 11) % 2147483647), .int c]) := upd_same
        generalize eH2 : upd H1 r (.lst ([V.ref sc, .int ((i : Int) + 1), .int z, .int c].set 2 (.int ((z * 48271 + cell + 11) % 2147483647)))) = H2 at r2 ⊢
        have b2 : But r H H2 := by rw [← eH2]; exact b1.trans But.upd
        refine ⟨_, rfl, _, _, rfl, rfl, ⟨by decide, by decide, by decide⟩, _, _, rfl, rfl, _, rfl, ?_⟩
        obtain ⟨k, hk, ek⟩ := mod_vN (x := cell) hm
        rw [ei] at r2
        by_cases hbig : (10 : Int) ^ (18 : Int).toNat ≤ cell
        · refine iteDT hbig ?_
          refine ⟨_, rfl, _, rfl, _, _, rfl, rfl, hW _, ?_⟩
          refine ⟨_, rfl, r, _, 3, 3, rfl, rfl, r2, rfl, ?_⟩
          refine ⟨_, rfl, .inl ⟨_, rfl, _, rfl, _, _, rfl, rfl, (by show (0 : Int) < (m : Int); omega), ?_⟩⟩
          show Q (V.int (cell % (m : Int))) _
          rw [ek]
          exact q k _ hk ⟨i + 1, _, _, (hs.but b2).but But.upd, upd_same, (hmod _).1, (hmod _).2⟩ (b2.trans But.upd)
        · refine iteDF hbig ?_
          refine ⟨_, rfl, .inl ⟨_, rfl, _, rfl, _, _, rfl, rfl, (by show (0 : Int) < (m : Int); omega), ?_⟩⟩
          show Q (V.int (cell % (m : Int))) _
          rw [ek]
          exact q k _ hk ⟨i + 1, _, c, hs.but b2, r2, (hmod _).1, (hmod _).2⟩ b2

/-- one of some ints -/
def sp_pick (K : PySem.W.Frag) : Sp := fun vs H Q _ => ∃ (r l sc : Addr) (sn : List Int) (ns : List Nat), vs = [.ref r, .ref l] ∧ ns ≠ [] ∧ ns.length ≤ 1000 ∧ l ≠ r ∧ H l = some (.lst (ns.map vN)) ∧ RowAt K H r sc sn ∧ ∀ k H', k ∈ ns → RowAt K H' r sc sn → But r H H' → Q (vN k) H'
theorem sc_lpick : FnScope ["_law_row", "_law_things"] ["_law_row", "_law_things"] (defScope s_lpick) := ⟨rfl, rfl, rfl, by decide +kernel, rfl, by decide +kernel, by decide +kernel⟩
theorem ok_lpick (T : Bt mg) (C : Cal P w K mg base 1 "_law_taken" (sp_taken K) []) (D : DefAt K mg "_law_pick" s_lpick ["_law_row", "_law_things"]) : Cal P w K mg base 2 "_law_pick" (sp_pick K) [] := by
  refine cal_ok D sc_lpick (fun vs H Q E h => ?_) (fun f cdv A outer s H vs Q E hr h => ?_)
  · obtain ⟨r, l, sc, sn, ns, rfl, _⟩ := h
    rfl
  · obtain ⟨r, l, sc, sn, ns, rfl, hne, hl, hlr, hll, hrow, q⟩ := h
    refine ⟨_, pss_one (ps_ret (x_ixL (pv 1) (pe_c C hr (by decide) (by rfl) (pa2 (pv 0) (x_len T (pv 1)))) (fun _ _ => rfl))), ?_⟩
    have hpos := List.length_pos_iff.mpr hne
    refine ⟨_, rfl, _, rfl, _, rfl, l, _, rfl, .inl (sqL hll), r, sc, sn, ns.length, congrArg (fun n : Nat => [V.ref r, V.int (n : Int)]) (List.length_map ..), hpos, hl, hrow, fun k H' hk hrow' hb => ?_⟩
    exact ⟨l, _, (k : Int), vN ns[k], rfl, rfl, sqL (hb _ _ hlr hll), at_of (j := k) rfl (by rw [List.getElem?_map, List.getElem?_eq_getElem hk]; rfl), q _ _ (List.getElem_mem hk) hrow' hb⟩
end
end L2.SB
/-! The law's own: _law_alike. -/
namespace L2.SB
open PySem PySem.Spec PyProof.Rows Sb
open PySem.W (alike dataLt dataLe)
open C8 (Cal pe_c pe_gc)

abbrev s_lalike : Stmt := top 39
/-- data of so many storeys -/
inductive DL : Nat → PyData → Prop
  | int (n : Nat) (i : Int) : DL n (.int i)
  | tup (n : Nat) (ds : List PyData) : (∀ e, e ∈ ds → DL n e) → ds.length ≤ 1000000 → DL (n + 1) (.tuple ds)
theorem any_int {K : PySem.W.Frag} : PySem.W.kitAny K (.type "int") [.type "tuple", .type "list"] = some false :=
  kitAny_cons (b := false) (kit_ty (by decide +kernel)) (fun _ => kitAny_cons (b := false) (kit_ty (by decide +kernel)) (fun _ => kitAny_nil) (fun z => nomatch z)) (fun z => nomatch z)
theorem any_tup {K : PySem.W.Frag} : PySem.W.kitAny K (.type "tuple") [.type "tuple", .type "list"] = some true :=
  kitAny_cons (b := true) (kit_ty (by decide +kernel)) (fun z => nomatch z) (fun _ => rfl)
theorem cls2 : Paired ClsV [V.ty "tuple", V.ty "list"] [Value.type "tuple", Value.type "list"] := .cons (.ty _) (.cons (.ty _) .nil)
section
variable {P : Program} {w : World} {K : PySem.W.Frag} {mg : Str → Option Value} {base : Heap}
def sp_alike (n : Nat) : Sp := fun vs H Q _ => ∃ (x y : V) (d : PyData), vs = [x, y] ∧ Tq H x d ∧ Tq H y d ∧ DL n d ∧ ∀ H', Same H H' → Q (.bl true) H'
theorem sc_lalike : FnScope ["_law_found", "_law_due", "_law_k"] ["_law_found", "_law_due"] (defScope s_lalike) := ⟨rfl, rfl, rfl, by decide +kernel, rfl, by decide +kernel, by decide +kernel⟩
theorem ok_lalike0 (T : Bt mg) (D : DefAt K mg "_law_alike" s_lalike ["_law_found", "_law_due"]) : Cal P w K mg base 1 "_law_alike" (sp_alike 0) [] := by
  refine cal_ok D sc_lalike (fun vs H Q E h => ?_) (fun f cdv A outer s H vs Q E hr h => ?_)
  · obtain ⟨x, y, d, rfl, _⟩ := h
    rfl
  · obtain ⟨x, y, d, rfl, hx, hy, hd, q⟩ := h
    cases hd with
    | int n i =>
    cases hx.intInv
    cases hy.intInv
    refine ⟨_, pss_cons (ps_if (pt_val (x_isiT T (pa2 (pv 1) (pe_tup (pa2 (x_tTuple T) (x_tList T)))))) pss_never pss_nil)
      (pss_cons (ps_if (PW.pt (pw_or (pt_cmp (pc_isN (pv 1))) (pw_or1 (pt_val (x_isi T (pa2 (pv 1) (x_tStr T))))))) pss_never pss_nil)
      (pss_one (ps_ret (pe_and (x_isi T (pa2 (pv 0) (x_tInt T))) (pe_and (pe_cmpR op_eq (x_isi T (pa2 (pv 0) (x_tBool T))) (x_isi T (pa2 (pv 1) (x_tBool T))) (nomark _)) (pe_one (pe_cmpR op_eq (pv 0) (pv 1) (nomark _)))))))), ?_⟩
    refine ⟨_, rfl, (by show 2 ≤ sizeLine; decide), fun t ht => ?_⟩
    refine ⟨_, t, _, _, _, false, rfl, upd_same, cls2, .base (.int _), any_int, _, rfl, iteF ?_⟩
    refine ⟨_, rfl, _, rfl, iteDF (fun z => nomatch z) ?_⟩
    refine ⟨_, rfl, _, _, _, _, false, rfl, .ty _, .base (.int _), kit_ty (by decide +kernel), false, rfl, iteF ?_⟩
    refine ⟨_, rfl, _, _, _, _, true, rfl, .ty _, .base (.int _), kit_ty (by decide +kernel), true, rfl, iteT ?_⟩
    refine ⟨_, rfl, _, _, _, _, false, rfl, .ty _, .base (.int _), kit_ty (by decide +kernel), ?_⟩
    refine ⟨_, rfl, _, _, _, _, false, rfl, .ty _, .base (.int _), kit_ty (by decide +kernel), rfl, _, rfl, ?_⟩
    refine iteDT rfl ⟨_, rfl, _, rfl, rfl, ?_⟩
    rw [decide_eq_true rfl]
    exact q _ (Same.new ht)
theorem ok_lalikeS {n : Nat} (T : Bt mg) (C : Cal P w K mg base (n + 1) "_law_alike" (sp_alike n) []) (D : DefAt K mg "_law_alike" s_lalike ["_law_found", "_law_due"]) : Cal P w K mg base (n + 2) "_law_alike" (sp_alike (n + 1)) [] := by
  refine cal_ok D sc_lalike (fun vs H Q E h => ?_) (fun f cdv A outer s H vs Q E hr h => ?_)
  · obtain ⟨x, y, d, rfl, _⟩ := h
    rfl
  · obtain ⟨x, y, d, rfl, hx, hy, hd, q⟩ := h
    have nd := sc_lalike.nd
    refine ⟨_, pss_cons (ps_if (pt_val (x_isiT T (pa2 (pv 1) (pe_tup (pa2 (x_tTuple T) (x_tList T))))))
        (pss_cons (ps_if (PW.pt (pw_or (pt_not (pt_val (x_isiT T (pa2 (pv 0) (pe_tup (pa2 (x_tTuple T) (x_tList T))))))) (pw_or1 (pt_cmpR op_ne (x_isi T (pa2 (pv 0) (x_tList T))) (x_isi T (pa2 (pv 1) (x_tList T))) (nomark _))))) pss_never pss_nil)
        (pss_cons (ps_if (pt_cmpR op_ne (x_len T (pv 0)) (x_len T (pv 1)) (nomark _)) pss_never pss_nil)
        (pss_one (ps_ret (pe_cmpR (op_eq0 (hu64 hr)) (pe_lc (own := [("_law_k", 2)]) (g := gName 2) (tt := tNot (tB (tCall (sp_alike n) [] C8.E0 (tCons (tOp (rIxT K) (tVar 0) (tVar 2)) (tCons (tOp (rIxT K) (tVar 1) (tVar 2)) tNil))))) (te := tVar 2) (by rfl) nd (pi_range1 (by rfl) T.range (pa1 (x_len T (pv 1))))
          (blkOk_by (N := ["_law_found", "_law_due", "_law_k"]) (sc := defScope s_lalike) (by decide +kernel)) (fun _ _ _ _ _ => pgn (i := 2) nd rfl rfl)
          (fun _ _ _ _ _ => pts_one (pt_not (pt_val (pe_c C hr (Nat.le_refl _) (by rfl) (pa2 (x_ixT (pv 0) (pv 2) (fun _ _ => rfl)) (x_ixT (pv 1) (pv 2) (fun _ _ => rfl))))))) (fun _ _ _ _ _ => pv 2)) (pe_lst pa_nil) (nomark _)))))) pss_nil)
      (pss_cons (ps_if (PW.pt (pw_or (pt_cmp (pc_isN (pv 1))) (pw_or1 (pt_val (x_isi T (pa2 (pv 1) (x_tStr T))))))) pss_never pss_nil)
      (pss_one (ps_ret (pe_and (x_isi T (pa2 (pv 0) (x_tInt T))) (pe_and (pe_cmpR op_eq (x_isi T (pa2 (pv 0) (x_tBool T))) (x_isi T (pa2 (pv 1) (x_tBool T))) (nomark _)) (pe_one (pe_cmpR op_eq (pv 0) (pv 1) (nomark _)))))))), ?_⟩
    cases hd with
    | int n i =>
      cases hx.intInv
      cases hy.intInv
      refine ⟨_, rfl, (by show 2 ≤ sizeLine; decide), fun t ht => ?_⟩
      refine ⟨_, t, _, _, _, false, rfl, upd_same, cls2, .base (.int _), any_int, _, rfl, iteF ?_⟩
      refine ⟨_, rfl, _, rfl, iteDF (fun z => nomatch z) ?_⟩
      refine ⟨_, rfl, _, _, _, _, false, rfl, .ty _, .base (.int _), kit_ty (by decide +kernel), false, rfl, iteF ?_⟩
      refine ⟨_, rfl, _, _, _, _, true, rfl, .ty _, .base (.int _), kit_ty (by decide +kernel), true, rfl, iteT ?_⟩
      refine ⟨_, rfl, _, _, _, _, false, rfl, .ty _, .base (.int _), kit_ty (by decide +kernel), ?_⟩
      refine ⟨_, rfl, _, _, _, _, false, rfl, .ty _, .base (.int _), kit_ty (by decide +kernel), rfl, _, rfl, ?_⟩
      refine iteDT rfl ⟨_, rfl, _, rfl, rfl, ?_⟩
      rw [decide_eq_true rfl]
      exact q _ (Same.new ht)
    | tup n ds hds hlen =>
      obtain ⟨a1, xs, rfl, ha1, hxs⟩ := hx.tupInv
      obtain ⟨a2, ys, rfl, ha2, hys⟩ := hy.tupInv
      refine ⟨_, rfl, (by show 2 ≤ sizeLine; decide), fun t ht => ?_⟩
      have s1 : Same H (upd H t (.tup [V.ty "tuple", V.ty "list"])) := Same.new ht
      refine ⟨_, t, _, _, _, true, rfl, upd_same, cls2, .base (.tup (s1 _ _ ha2)), any_tup, _, rfl, iteT ?_⟩
      refine ⟨_, rfl, (by show 2 ≤ sizeLine; decide), fun t2 ht2 => ?_⟩
      have s2 := s1.trans (Same.new (o := .tup [V.ty "tuple", V.ty "list"]) ht2)
      refine ⟨_, t2, _, _, _, true, rfl, upd_same, cls2, .base (.tup (s2 _ _ ha1)), any_tup, _, rfl, iteF ?_⟩
      refine ⟨_, rfl, _, _, _, _, false, rfl, .ty _, .base (.tup (s2 _ _ ha1)), kit_ty (by decide +kernel), ?_⟩
      refine ⟨_, rfl, _, _, _, _, false, rfl, .ty _, .base (.tup (s2 _ _ ha2)), kit_ty (by decide +kernel), rfl, _, rfl, ?_⟩
      refine iteNS rfl ?_
      have hl1 := hxs.len
      have hl2 := hys.len
      refine ⟨_, rfl, a1, xs, rfl, .inr (sqT (s2 _ _ ha1)), _, rfl, a2, ys, rfl, .inr (sqT (s2 _ _ ha2)), rfl, _, rfl, ?_⟩
      refine iteNS (by rw [hl1, hl2]) ?_
      refine ⟨_, rfl, a2, ys, rfl, .inr (sqT (s2 _ _ ha2)), (ys.length : Int), rfl, by omega, by omega, fun D0 hD => ?_⟩
      refine lc_gen (walk_range (lo := 0) (n := ys.length)) (fun _ => false) (fun _ _ _ => True) hD (sz1000 (by omega)) (fun _ _ _ _ _ h => h) (fun _ _ => True.intro) ?_ ?_
      · rintro k x H2 H3 hi s3 ⟨rfl, rfl⟩ K0 Kf k1 k2
        have e0 : V.int (0 + (k : Int)) = vN k := by rw [Int.zero_add]
        have hi1 : k < xs.length := by omega
        obtain ⟨d1, hd1, q1⟩ := hxs.getV (List.getElem?_eq_getElem hi1)
        obtain ⟨d2, hd2, q2⟩ := hys.getV (List.getElem?_eq_getElem hi)
        rw [hd1] at hd2
        cases hd2
        have s4 := s2.trans s3
        refine ⟨rfl, ?_⟩
        refine ⟨_, rfl, _, rfl, a1, xs, (k : Int), xs[k], rfl, e0, sqT (s4 _ _ ha1), at_of (j := k) rfl (List.getElem?_eq_getElem hi1), ?_⟩
        refine ⟨_, rfl, _, rfl, a2, ys, (k : Int), ys[k], rfl, e0, sqT (s4 _ _ ha2), at_of (j := k) rfl (List.getElem?_eq_getElem hi), ?_⟩
        exact ⟨_, _, d1, rfl, q1.mono s4.tt, q2.mono s4.tt, hds d1 (List.mem_of_getElem? hd1), fun H5 s5 => ⟨true, rfl, iteF (k2 rfl _ s5)⟩⟩
      · intro H' zs s3 e pr
        have ef : (List.range ys.length).filter (fun _ => false) = [] := by simp
        rw [ef] at pr
        cases pr
        refine ⟨(by show 0 ≤ sizeLine; decide), fun n0 hn0 => ?_⟩
        have s4 : Same H' (upd H' n0 (.lst [])) := Same.new hn0
        exact ⟨D0, n0, [], rfl, rfl, sqL (s4 _ _ e), sqL upd_same, q _ ((s2.trans s3).trans s4)⟩
theorem ok_lalike (T : Bt mg) (D : DefAt K mg "_law_alike" s_lalike ["_law_found", "_law_due"]) : ∀ n, Cal P w K mg base (n + 1) "_law_alike" (sp_alike n) []
  | 0 => ok_lalike0 T D
  | n + 1 => ok_lalikeS T (ok_lalike T D n) D
end
end L2.SB
/-! The law's own: _law_mixed, _law_named. -/
namespace L2.SB
open PySem PySem.Spec PyProof.Rows Sb
open PySem.W (alike dataLt dataLe)
open C8 (Cal pe_c pe_gc)

abbrev s_lmixed : Stmt := top 40
abbrev s_lnamed : Stmt := top 41
def srtN (l : List Nat) : List Nat := l.mergeSort (dataLe false encN)
def rnm (nm : List Nat) (b : Bag) : Bag := srtN (b.map fun x => nm.getD x 0)
def named (G : Fam) (nm : List Nat) : Fam := (G.map (rnm nm)).mergeSort (dataLe false encB)
/-- the scope of the comprehension within return f(g([..])) -/
def lcScope : Stmt → Scope
  | .Return (some (.Call _ [.Call _ [.ListComp _ _ sc _] _ _] _ _)) _ => sc
  | s => defScope s
/-- a block's scope within another: what the outer holds in a cell -/
def relab (outer inner : Scope) : Scope := { inner with names := inner.names.map fun (n, k) => if (k == NameKind.free && outer.kind == .function && outer.names.lookup n == some .cell) then (n, NameKind.cell) else (n, k) }
theorem alike_N (x y : Nat) : alike (encN x) (encN y) = true := rfl
theorem depth_N (x : Nat) : (encN x).depth ≤ 8 := by simp [encN, PyData.depth]
theorem sortable_N (l : List Nat) : PySem.W.Sortable (l.map encN) := .inr fun d hd => by
  obtain ⟨x, _, rfl⟩ := List.mem_map.mp hd
  exact ⟨(fun z => nomatch z), (fun _ z => nomatch z)⟩
theorem srtN_perm (l : List Nat) : (srtN l).Perm l := List.mergeSort_perm l _
theorem srtN_up {l : List Nat} (nd : l.Nodup) : (srtN l).Pairwise (· < ·) := by
  have h1 := PySem.W.sort_pairwise (le_total encN) l
  have h2 : (srtN l).Nodup := (srtN_perm l).nodup_iff.mpr nd
  refine (h1.and h2).imp fun {a b} hh => ?_
  have h3 : (!dataLt (encN b) (encN a)) = true := hh.1
  have h4 : a ≠ b := hh.2
  have e : dataLt (encN b) (encN a) = decide ((b : Int) < (a : Int)) := PySem.W.dataLt_int _ _
  rw [e, Bool.not_eq_true', decide_eq_false_iff_not] at h3
  omega
/-- a tree under new names -/
theorem named_tree {n : Nat} {G : Fam} (t : Tree n G) {nm : List Nat} (hp : nm.Perm (List.range n)) : Tree n (named G nm) ∧ FamUp (named G nm) := by
  have hlen : nm.length = n := by rw [hp.length_eq, List.length_range]
  have nd : nm.Nodup := hp.nodup_iff.mpr List.nodup_range
  have hget : ∀ x, x < n → nm[x]? = some (nm.getD x 0) := fun x hx => by
    rw [List.getD_eq_getElem?_getD, List.getElem?_eq_getElem (by omega)]
    rfl
  have hlt : ∀ x, x < n → nm.getD x 0 < n := fun x hx => List.mem_range.mp (hp.mem_iff.mp (List.mem_of_getElem? (hget x hx)))
  have hinj : ∀ x y, x < n → y < n → nm.getD x 0 = nm.getD y 0 → x = y := fun x y hx hy e => by
    have h1 := hget x hx
    have h2 := hget y hy
    rw [e] at h1
    exact (List.getElem?_inj (by omega) nd).mp (h1.trans h2.symm)
  have hsur : ∀ y, y < n → ∃ x, x < n ∧ nm.getD x 0 = y := fun y hy => by
    obtain ⟨x, hx⟩ := List.mem_iff_getElem?.mp (hp.mem_iff.mpr (List.mem_range.mpr hy))
    have hxl := (List.getElem?_eq_some_iff.mp hx).1
    exact ⟨x, by omega, by rw [List.getD_eq_getElem?_getD, hx]; rfl⟩
  have hbnd : ∀ b, b ∈ G → (b.map fun x => nm.getD x 0).Nodup := fun b hb => by
    refine List.pairwise_map.mpr (List.Pairwise.imp_of_mem (fun {x y} hx hy hxy e => ?_) (up_nodup (t.up b hb)))
    exact hxy (hinj x y (t.lt b hb x hx) (t.lt b hb y hy) e)
  have hmem : ∀ b x, x ∈ rnm nm b ↔ ∃ y, y ∈ b ∧ nm.getD y 0 = x := fun b x => by
    unfold rnm
    rw [(srtN_perm _).mem_iff, List.mem_map]
  have hrl : ∀ b, (rnm nm b).length = b.length := fun b => by
    unfold rnm
    rw [(srtN_perm _).length_eq, List.length_map]
  have T0 : Tree n (G.map (rnm nm)) := by
    refine ⟨fun b hb => ?_, fun b hb => ?_, fun b hb x hx => ?_, fun c hc => ?_, ?_, t.size⟩
    · obtain ⟨b, hb', rfl⟩ := List.mem_map.mp hb
      exact srtN_up (hbnd b hb')
    · obtain ⟨b, hb', rfl⟩ := List.mem_map.mp hb
      rw [hrl]
      exact t.two b hb'
    · obtain ⟨b, hb', rfl⟩ := List.mem_map.mp hb
      obtain ⟨y, hy, rfl⟩ := (hmem b x).mp hx
      exact hlt y (t.lt b hb' y hy)
    · have h := t.conn (fun x => c (nm.getD x 0)) (fun b hb x hx y hy => hc _ (List.mem_map.mpr ⟨b, hb, rfl⟩) _ ((hmem b _).mpr ⟨x, hx, rfl⟩) _ ((hmem b _).mpr ⟨y, hy, rfl⟩))
      intro x hx y hy
      obtain ⟨x', hx', rfl⟩ := hsur x hx
      obtain ⟨y', hy', rfl⟩ := hsur y hy
      exact h x' hx' y' hy'
    · have e : wt (G.map (rnm nm)) = wt G := by
        unfold wt
        rw [List.map_map]
        congr 1
        refine List.map_congr_left fun b _ => ?_
        show (rnm nm b).length - 1 = b.length - 1
        rw [hrl]
      rw [e]
      exact t.wt
  refine ⟨T0.perm (List.mergeSort_perm _ _), sort_fam T0.nodup⟩
theorem map_erase {α β : Type} (f : α → β) : ∀ (l : List α) (k : Nat), (l.map f).eraseIdx k = (l.eraseIdx k).map f
  | [], k => by simp
  | a :: l, 0 => by simp
  | a :: l, k + 1 => by simp [map_erase f l k]
/-- lists of ints in a list -/
structure LL (H : Hp) (p : Addr) (as : List Addr) (G : Fam) : Prop where
  top : H p = some (.lst (as.map V.ref))
  len : as.length = G.length
  el : ∀ (i : Nat) (a : Addr), as[i]? = some a → ∃ b, G[i]? = some b ∧ H a = some (.lst (b.map vN))
theorem LL.keep {H H' : Hp} {p : Addr} {as : List Addr} {G : Fam} (h : LL H p as G) (s : Same H H') : LL H' p as G :=
  ⟨s _ _ h.top, h.len, fun i a e => let ⟨b, h1, h2⟩ := h.el i a e; ⟨b, h1, s _ _ h2⟩⟩
section
variable {P : Program} {w : World} {K : PySem.W.Frag} {mg : Str → Option Value} {base : Heap}
def sp_mixed (K : PySem.W.Frag) : Sp := fun vs H Q _ => ∃ (r l sc : Addr) (sn : List Int) (ns : List Nat), vs = [.ref r, .ref l] ∧ ns.length ≤ 1000 ∧ l ≠ r ∧ H l = some (.lst (ns.map vN)) ∧ RowAt K H r sc sn ∧
  ∀ (p : Addr) (ms : List Nat) (H' : Hp), ms.Perm ns → RowAt K H' r sc sn → But r H H' → H' p = some (.lst (ms.map vN)) → Q (.ref p) H'
theorem sc_lmixed : FnScope ["_law_row", "_law_some", "_law_left", "_law_found", "_law_turn"] ["_law_row", "_law_some"] (defScope s_lmixed) := ⟨rfl, rfl, rfl, by decide +kernel, rfl, by decide +kernel, by decide +kernel⟩
theorem ok_lmixed (T : Bt mg) (C : Cal P w K mg base 1 "_law_taken" (sp_taken K) []) (D : DefAt K mg "_law_mixed" s_lmixed ["_law_row", "_law_some"]) : Cal P w K mg base 2 "_law_mixed" (sp_mixed K) [] := by
  refine cal_ok D sc_lmixed (fun vs H Q E h => ?_) (fun f cdv A outer s H vs Q E hr h => ?_)
  · obtain ⟨r, l, sc, sn, ns, rfl, _⟩ := h
    rfl
  · obtain ⟨r, l, sc, sn, ns, rfl, hl, hlr, hll, hrow, q⟩ := h
    have nd := sc_lmixed.nd
    refine ⟨_, pss_cons (ps_par (i := 2) (j := 3) (by rfl) nd rfl rfl (by decide) rfl rfl (pa2 (x_list T (pv 1)) (pe_lst pa_nil)) (by rfl))
      (pss_cons (ps_for PassesOwn.never rfl (pi_range1 (by rfl) T.range (pa1 (x_len T (pv 2)))) (pg_name (i := 4) nd rfl (Or.inl rfl))
        (pss_one (ps_expr (x_append (pv 3) (pe_bm PySem.F.plainAttrs_list PySem.F.slot_list_pop PySem.F.type_list_pop mt_popAt (pv 2) (pa1 (pe_c C hr (by decide) (by rfl) (pa2 (pv 0) (x_len T (pv 2))))))))))
      (pss_one (ps_ret (pv 3)))), ?_⟩
    refine ⟨_, rfl, l, _, rfl, .inl (sqL hll), fun a1 ha1 => ?_⟩
    refine ⟨(by show 0 ≤ sizeLine; decide), fun a2 ha2 => ?_⟩
    refine ⟨_, _, rfl, ?_⟩
    have n12 : a1 ≠ a2 := ne_of_none upd_same ha2
    have s0 : Same H (upd (upd H a1 (.lst (ns.map vN))) a2 (.lst [])) := (Same.new ha1).trans (Same.new ha2)
    have h2n : H a2 = none := by rw [upd_ne n12.symm] at ha2; exact ha2
    obtain ⟨ur, hur⟩ := hrow.some
    have n1r : a1 ≠ r := (ne_of_none hur ha1).symm
    have n2r : a2 ≠ r := (ne_of_none hur h2n).symm
    have e1 : (upd (upd H a1 (.lst (ns.map vN))) a2 (.lst [])) a1 = some (.lst (ns.map vN)) := by rw [upd_ne n12, upd_same]
    refine ⟨_, rfl, a1, _, rfl, .inl (sqL e1), ((ns.map vN).length : Int), rfl, by rw [List.length_map]; omega, by rw [List.length_map]; omega, ?_⟩
    refine for_it (walk_range (lo := 0) (n := (ns.map vN).length)) (fun t σ H1 => ∃ y4 ls ms, σ = [some (.ref r), some (.ref l), some (.ref a1), some (.ref a2), y4] ∧ But r H H1 ∧ RowAt K H1 r sc sn ∧ H1 a1 = some (.lst (ls.map vN)) ∧ H1 a2 = some (.lst (ms.map vN)) ∧ (ms ++ ls).Perm ns ∧ ms.length = t)
      ⟨_, ns, [], rfl, But.of s0, hrow.keep s0, e1, upd_same, List.Perm.refl _, rfl⟩ (fun _ _ _ _ _ => True.intro) ?_ ?_
    · rintro t z σ H1 H2 ht ⟨y4, ls, ms, rfl, b1, row1, h1, h2, pm, hml⟩ ⟨rfl, rfl⟩
      rw [List.length_map] at ht
      have hlen := pm.length_eq
      rw [List.length_append] at hlen
      refine ⟨_, rfl, tyL h2, _, rfl, tyL h1, _, rfl, _, rfl, a1, _, rfl, .inl (sqL h1), r, sc, sn, ls.length, congrArg (fun n : Nat => [V.ref r, V.int (n : Int)]) (List.length_map ..), by omega, by omega, row1, fun k H3 hk row3 b3 => ?_⟩
      have h1' := b3 _ _ n1r h1
      have h2' := b3 _ _ n2r h2
      have hix : ixN (ls.map vN).length (k : Int) = some k := by
        unfold ixN
        rw [if_pos (by omega), List.length_map, if_pos (by omega)]
        simp
      refine ⟨a1, ls.map vN, (k : Int), k, vN ls[k], rfl, rfl, h1', by omega, by omega, (ixN_seq hix).1, by rw [List.getElem?_map, List.getElem?_eq_getElem hk]; rfl, ?_⟩
      have e3 : (upd H3 a1 (.lst ((ls.map vN).eraseIdx k))) a2 = some (.lst (ms.map vN)) := by rw [upd_ne n12.symm]; exact h2'
      refine ⟨a2, ms.map vN, _, rfl, rfl, e3, sz1000 (by rw [List.length_map]; omega), ?_⟩
      have b4 : But r H (upd (upd H3 a1 (.lst ((ls.map vN).eraseIdx k))) a2 (.lst (ms.map vN ++ [vN ls[k]]))) := fun b u nb eb => by
        have hb1 : b ≠ a1 := ne_of_none eb ha1
        have hb2 : b ≠ a2 := ne_of_none eb h2n
        rw [upd_ne hb2, upd_ne hb1]
        exact b3 _ _ nb (b1 _ _ nb eb)
      refine ⟨_, ls.eraseIdx k, ms ++ [ls[k]], rfl, b4, hrow.re b4 row3 (by rw [upd_ne n2r.symm, upd_ne n1r.symm]), ?_, ?_, ?_, ?_⟩
      · rw [upd_ne n12, upd_same, map_erase]
      · rw [upd_same, List.map_append]
        rfl
      · have h5 := erase_perm ls k ls[k] (List.getElem?_eq_getElem hk)
        refine List.Perm.trans ?_ pm
        rw [List.append_assoc]
        exact List.Perm.append_left ms h5
      · rw [List.length_append, hml]
        rfl
    · rintro σ H1 ⟨y4, ls, ms, rfl, b1, row1, h1, h2, pm, hml⟩
      rw [List.length_map] at hml
      have hlen := pm.length_eq
      rw [List.length_append] at hlen
      have hnil : ls = [] := List.eq_nil_of_length_eq_zero (by omega)
      subst hnil
      rw [List.append_nil] at pm
      exact ⟨_, rfl, q a2 ms _ pm row1 b1 h2⟩

/-- the readings of tuple(..), sorted(..) within a comprehension -/
def tTuple (K : PySem.W.Frag) (te : TE) : TE := tCB (fun xs H Q => ∃ p ys, xs = [.ref p] ∧ ((SqL K H p ys ∧ ∀ l, H l = none → Q (.ref l) (upd H l (.tup ys))) ∨ (SqT K H p ys ∧ Q (.ref p) H))) (tCons te tNil)
def sp_named : Sp := fun vs H Q _ => ∃ (pb pn : Addr) (as : List Addr) (G : Fam) (nm : List Nat) (n : Nat), vs = [.ref pb, .ref pn] ∧ LL H pb as G ∧ H pn = some (.lst (nm.map vN)) ∧ Tree n G ∧ n ≤ 7 ∧ nm.Perm (List.range n) ∧ ∀ v H', Same H H' → Tq H' v (encF (named G nm)) → Q v H'
theorem sc_lnamed : FnScope ["_law_bags", "_law_names", "_law_bag", "_law_bead"] ["_law_bags", "_law_names"] (defScope s_lnamed) := ⟨rfl, rfl, rfl, by decide +kernel, rfl, by decide +kernel, by decide +kernel⟩
theorem ok_lnamed (T : Bt mg) (D : DefAt K mg "_law_named" s_lnamed ["_law_bags", "_law_names"]) : Cal P w K mg base 1 "_law_named" sp_named [] := by
  refine cal_ok D sc_lnamed (fun vs H Q E h => ?_) (fun f cdv A outer s H vs Q E hr h => ?_)
  · obtain ⟨pb, pn, as, G, nm, n, rfl, _⟩ := h
    rfl
  · obtain ⟨pb, pn, as, G, nm, n, rfl, hL, hn, ht, hn7, pm, q⟩ := h
    have nd := sc_lnamed.nd
    refine ⟨_, pss_one (ps_ret (x_tuple T (x_sorted T (cr_sortD encB alike_B (fun b => Nat.le_trans (depth_B b) (by decide)) (hu10 hr))
      (pe_lc (own := [("_law_bag", 2)]) (g := gName 2) (tt := tYes) (te := tTuple K (tCB (rSortD K encN) (tCons (tLc (iList K (tVar 2)) (gName 3) tYes (tOp (rIxL K) (tVar 1) (tVar 3)) [3]) tNil))) (by rfl) nd (pi_list (pv 0))
        (blkOk_by (N := ["_law_bags", "_law_names", "_law_bag", "_law_bead"]) (sc := defScope s_lnamed) (by decide +kernel)) (fun _ _ _ _ _ => pgn (i := 2) nd rfl rfl) (fun _ _ _ _ _ => pts_nil)
        (fun _ _ _ _ _ => x_tuple T (x_sorted T (cr_sortD encN alike_N depth_N (hu10 hr))
          (pe_lc (own := [("_law_bead", 3)]) (g := gName 3) (tt := tYes) (te := tOp (rIxL K) (tVar 1) (tVar 3)) (by rfl) nd (pi_list (pv 2))
            (blkOk_by (N := ["_law_bags", "_law_names", "_law_bag", "_law_bead"]) (sc := relab (defScope s_lnamed) (lcScope ((defBody s_lnamed).getD 0 s_lnamed))) (by decide +kernel)) (fun _ _ _ _ _ => pgn (i := 3) nd rfl rfl) (fun _ _ _ _ _ => pts_nil)
            (fun _ _ _ _ _ => x_ixL (pv 1) (pv 3) (fun _ _ => rfl))))))))), ?_⟩
    have hfew := ht.few
    have hlen : nm.length = n := by rw [pm.length_eq, List.length_range]
    have hal := hL.len
    refine ⟨_, rfl, pb, rfl, ⟨_, sqL hL.top⟩, fun D0 hD => ?_⟩
    refine lc_map (walk_list (xs := as.map V.ref)) (fun i y H => ∃ b, G[i]? = some b ∧ Tq H y (encB (rnm nm b))) hD (sz1000 (by rw [List.length_map]; omega)) (fun _ _ _ _ tt ⟨b, e, h⟩ => ⟨b, e, h.mono tt⟩) (fun H' s => sqL (s _ _ hL.top)) ?_ ?_
    · rintro i x H1 H2 hi s1 ⟨rfl, e1⟩ K0 hK
      rw [List.getElem?_map] at e1
      obtain ⟨g, hg, rfl⟩ := Option.map_eq_some_iff.mp e1
      obtain ⟨b, hb, hgb⟩ := hL.el i g hg
      have hbm := List.mem_of_getElem? hb
      have hbl := Tree.len ht hbm
      refine ⟨rfl, ?_⟩
      refine ⟨_, rfl, g, rfl, ⟨_, sqL (s1 _ _ hgb)⟩, fun D1 hD1 => ?_⟩
      refine lc_map (walk_list (xs := b.map vN)) (fun j y _ => ∃ x, b[j]? = some x ∧ y = V.int ((nm.getD x 0 : Nat) : Int)) hD1 (sz1000 (by rw [List.length_map]; omega)) (fun _ _ _ _ _ h => h) (fun H' s => sqL ((s1.trans s) _ _ hgb)) ?_ ?_
      · rintro j x H3 H4 hj s3 ⟨rfl, e2⟩ K1 hK1
        rw [List.getElem?_map] at e2
        obtain ⟨m, hm, rfl⟩ := Option.map_eq_some_iff.mp e2
        have hmn := ht.lt b hbm m (List.mem_of_getElem? hm)
        have hmg : nm[m]? = some (nm.getD m 0) := by
          rw [List.getD_eq_getElem?_getD, List.getElem?_eq_getElem (by omega)]
          rfl
        refine ⟨rfl, _, rfl, _, rfl, pn, nm.map vN, (m : Int), vN (nm.getD m 0), rfl, rfl, sqL ((s1.trans s3) _ _ hn), at_of (j := m) rfl (by rw [List.getElem?_map, hmg]; rfl), hK1 _ _ (Same.refl _) ⟨m, hm, rfl⟩⟩
      · intro H3 ys s3 e pr
        rw [List.length_map] at pr
        have eb := paired_ints (f := fun x => ((nm.getD x 0 : Nat) : Int)) (paired_map pr)
        have ey : ys = (b.map fun x => nm.getD x 0).map vN := by rw [eb, List.map_map, List.map_map]; rfl
        subst ey
        refine ⟨D1, _, b.map fun x => nm.getD x 0, rfl, sqL e, Tqs.ints, sortable_N _, fun ys2 p2 hq2 hp2 => ?_⟩
        have e3 : ys2 = (rnm nm b).map vN := Tqs.intsInv hq2
        subst e3
        refine ⟨p2, _, rfl, .inl ⟨sqL upd_same, fun t ht0 => ?_⟩⟩
        exact hK _ _ ((s3.trans (Same.new hp2)).trans (Same.new ht0)) ⟨b, hb, tq_bag upd_same⟩
    · intro H1 ys s1 e pr
      rw [List.length_map, hal] at pr
      have hq := paired_tqs (f := fun b => encB (rnm nm b)) (paired_map pr)
      obtain ⟨T0, _⟩ := named_tree ht pm
      have hne : ∀ b, b ∈ G.map (rnm nm) → b ≠ [] := fun b hb => T0.ne (List.mem_mergeSort.mpr hb)
      refine ⟨D0, ys, G.map (rnm nm), rfl, sqL e, by rw [List.map_map]; exact hq, sortable_B hne, fun ys2 p2 hq2 hp2 => ?_⟩
      refine ⟨p2, _, rfl, .inl ⟨sqL upd_same, fun t ht0 => ?_⟩⟩
      have s2 := Same.new (o := .lst ys2) hp2
      have s3 := Same.new (o := .tup ys2) ht0
      exact q _ _ ((s1.trans s2).trans s3) (.tup upd_same (Tqs.mono s3.tt (Tqs.mono s2.tt hq2)))
end
end L2.SB
/-! The law's own: _law_family. -/
namespace L2.SB
open PySem PySem.Spec PyProof.Rows Sb
open PySem.W (alike dataLt dataLe)
open C8 (Cal pe_c pe_gc)

abbrev s_lfamily : Stmt := top 42
theorem set_split {α : Type} : ∀ {G : List α} {j : Nat} {b : α}, G[j]? = some b → ∃ P S, G = P ++ b :: S ∧ ∀ v, G.set j v = P ++ v :: S
  | [], j, b, h => by simp at h
  | a :: G, 0, b, h => by
    simp at h
    subst h
    exact ⟨[], G, rfl, fun v => rfl⟩
  | a :: G, j + 1, b, h => by
    obtain ⟨P, S, e, q⟩ := set_split (G := G) (j := j) (by simpa using h)
    exact ⟨a :: P, S, by rw [e]; rfl, fun v => by rw [List.set_cons_succ, q]; rfl⟩
theorem tree_two : Tree 2 [[0, 1]] := by
  refine ⟨fun b hb => ?_, fun b hb => ?_, fun b hb x hx => ?_, fun c hc x hx y hy => ?_, by decide, by decide⟩
  · rw [List.mem_singleton.mp hb]; decide
  · rw [List.mem_singleton.mp hb]; decide
  · rw [List.mem_singleton.mp hb] at hx
    simp at hx
    omega
  · have h := hc [0, 1] (by simp)
    refine h x ?_ y ?_
    · simp; omega
    · simp; omega
theorem tree_grow {x : Nat} {P S : Fam} {b : Bag} (t : Tree x (P ++ b :: S)) : Tree (x + 1) (P ++ (b ++ [x]) :: S) := by
  have mb : b ∈ P ++ b :: S := by simp
  have old : ∀ d, d ∈ P ++ (b ++ [x]) :: S → d = b ++ [x] ∨ d ∈ P ++ b :: S := fun d hd => by
    rcases List.mem_append.mp hd with h | h
    · exact .inr (List.mem_append_left _ h)
    · rcases List.mem_cons.mp h with h | h
      · exact .inl h
      · exact .inr (List.mem_append_right _ (List.mem_cons_of_mem _ h))
  refine ⟨fun d hd => ?_, fun d hd => ?_, fun d hd y hy => ?_, fun c hc => ?_, ?_, by have := t.size; omega⟩
  · rcases old d hd with rfl | h
    · refine List.pairwise_append.mpr ⟨t.up b mb, by simp, fun a ha z hz => ?_⟩
      rw [List.mem_singleton.mp hz]
      exact t.lt b mb a ha
    · exact t.up d h
  · rcases old d hd with rfl | h
    · rw [List.length_append]
      have := t.two b mb
      omega
    · exact t.two d h
  · rcases old d hd with rfl | h
    · rcases List.mem_append.mp hy with h | h
      · have := t.lt b mb y h; omega
      · rw [List.mem_singleton.mp h]; omega
    · have := t.lt d h y hy; omega
  · have hnew := hc (b ++ [x]) (by simp)
    have h := t.conn c fun d hd => by
      rcases List.mem_append.mp hd with h | h
      · exact hc d (List.mem_append_left _ h)
      · rcases List.mem_cons.mp h with rfl | h
        · exact fun y hy z hz => hnew y (List.mem_append_left _ hy) z (List.mem_append_left _ hz)
        · exact hc d (List.mem_append_right _ (List.mem_cons_of_mem _ h))
    obtain ⟨u, hu⟩ := List.exists_mem_of_ne_nil _ (t.ne mb)
    have hux := t.lt b mb u hu
    have hxu : c x = c u := hnew x (by simp) u (List.mem_append_left _ hu)
    have key : ∀ y, y < x + 1 → c y = c u := fun y hy => by
      by_cases e : y = x
      · rw [e]; exact hxu
      · exact h y (by omega) u hux
    exact fun y hy z hz => (key y hy).trans (key z hz).symm
  · have h := t.wt
    rw [wt_append, wt_cons] at h
    rw [wt_append, wt_cons, List.length_append, List.length_singleton]
    have := t.two b mb
    omega
theorem tree_hang {x j : Nat} {G : Fam} (t : Tree x G) (hj : j < x) : Tree (x + 1) (G ++ [[j, x]]) := by
  refine ⟨fun d hd => ?_, fun d hd => ?_, fun d hd y hy => ?_, fun c hc => ?_, ?_, by have := t.size; omega⟩
  · rcases List.mem_append.mp hd with h | h
    · exact t.up d h
    · rw [List.mem_singleton.mp h]
      simp
      omega
  · rcases List.mem_append.mp hd with h | h
    · exact t.two d h
    · rw [List.mem_singleton.mp h]; exact Nat.le_refl _
  · rcases List.mem_append.mp hd with h | h
    · have := t.lt d h y hy; omega
    · rw [List.mem_singleton.mp h] at hy
      simp at hy
      omega
  · have h := t.conn c fun d hd => hc d (List.mem_append_left _ hd)
    have hnew := hc [j, x] (by simp)
    have hxj : c x = c j := hnew x (by simp) j (by simp)
    have key : ∀ y, y < x + 1 → c y = c j := fun y hy => by
      by_cases e : y = x
      · rw [e]; exact hxj
      · exact h y (by omega) j hj
    exact fun y hy z hz => (key y hy).trans (key z hz).symm
  · have h := t.wt
    rw [wt_append, wt_cons]
    have : wt [] = 0 := rfl
    simp only [List.length_cons, List.length_nil]
    omega
/-- lists of ints in a list, all of them ours -/
structure LM (H0 H : Hp) (p : Addr) (as : List Addr) (G : Fam) : Prop where
  ll : LL H p as G
  nd : as.Nodup
  new : ∀ a, a ∈ as → H0 a = none ∧ a ≠ p
  newp : H0 p = none
theorem LM.but {H0 H H' : Hp} {r p : Addr} {as : List Addr} {G : Fam} (h : LM H0 H p as G) (hr : ∃ u, H0 r = some u) (b : But r H H') : LM H0 H' p as G := by
  obtain ⟨u, hu⟩ := hr
  refine ⟨⟨b _ _ (ne_of_none hu h.newp).symm h.ll.top, h.ll.len, fun i a e => ?_⟩, h.nd, h.new, h.newp⟩
  obtain ⟨d, h1, h2⟩ := h.ll.el i a e
  exact ⟨d, h1, b _ _ (ne_of_none hu (h.new a (List.mem_of_getElem? e)).1).symm h2⟩
/-- one list longer -/
theorem LM.grow {H0 H : Hp} {p : Addr} {as : List Addr} {G : Fam} (h : LM H0 H p as G) {j : Nat} {a : Addr} (ha : as[j]? = some a) (b : Bag) : LM H0 (upd H a (.lst (b.map vN))) p as (G.set j b) := by
  have hm := List.mem_of_getElem? ha
  obtain ⟨n1, n2⟩ := h.new a hm
  refine ⟨⟨by rw [upd_ne n2.symm]; exact h.ll.top, by rw [List.length_set]; exact h.ll.len, fun i c e => ?_⟩, h.nd, h.new, h.newp⟩
  by_cases hij : i = j
  · subst hij
    rw [ha] at e
    cases e
    refine ⟨b, ?_, upd_same⟩
    rw [List.getElem?_set_self]
    rw [← h.ll.len]
    exact (List.getElem?_eq_some_iff.mp ha).1
  · obtain ⟨d, h1, h2⟩ := h.ll.el i c e
    refine ⟨d, by rw [List.getElem?_set_ne (fun z => hij z.symm)]; exact h1, ?_⟩
    rw [upd_ne (fun z => hij ?_)]
    · exact h2
    · subst z
      exact (List.getElem?_inj (List.getElem?_eq_some_iff.mp e).1 h.nd).mp (e.trans ha.symm)
/-- a list more -/
theorem LM.more {H0 H : Hp} {p c : Addr} {as : List Addr} {G : Fam} (h : LM H0 H p as G) (s0 : ∀ u b, H0 b = some u → H b ≠ none) {b : Bag} (hc : H c = none) :
    LM H0 (upd (upd H c (.lst (b.map vN))) p (.lst (as.map V.ref ++ [V.ref c]))) p (as ++ [c]) (G ++ [b]) := by
  have ncp : c ≠ p := (ne_of_none h.ll.top hc).symm
  have nc : ∀ a, a ∈ as → a ≠ c := fun a ha => by
    obtain ⟨i, hi⟩ := List.mem_iff_getElem?.mp ha
    obtain ⟨d, _, h2⟩ := h.ll.el i a hi
    exact ne_of_none h2 hc
  have hc0 : H0 c = none := by
    cases e : H0 c with
    | none => rfl
    | some u => exact absurd hc (s0 u c e)
  refine ⟨⟨by rw [upd_same, List.map_append]; rfl, by rw [List.length_append, List.length_append, h.ll.len]; rfl, fun i a e => ?_⟩, ?_, fun a ha => ?_, h.newp⟩
  · by_cases hi : i < as.length
    · rw [List.getElem?_append_left hi] at e
      obtain ⟨d, h1, h2⟩ := h.ll.el i a e
      have hm := List.mem_of_getElem? e
      refine ⟨d, by rw [List.getElem?_append_left (by rw [← h.ll.len]; exact hi)]; exact h1, ?_⟩
      rw [upd_ne (h.new a hm).2, upd_ne (nc a hm)]
      exact h2
    · have hl := (List.getElem?_eq_some_iff.mp e).1
      rw [List.length_append, List.length_singleton] at hl
      have hi' : i = as.length := by omega
      subst hi'
      rw [List.getElem?_append_right (Nat.le_refl _), Nat.sub_self] at e
      cases e
      refine ⟨b, ?_, ?_⟩
      · rw [List.getElem?_append_right (by rw [h.ll.len]; exact Nat.le_refl _), h.ll.len, Nat.sub_self]
        rfl
      · rw [upd_ne ncp, upd_same]
  · exact nd_snoc h.nd fun m => nc c m rfl
  · rcases List.mem_append.mp ha with ha | ha
    · exact h.new a ha
    · rw [List.mem_singleton.mp ha]
      exact ⟨hc0, ncp⟩
section
variable {P : Program} {w : World} {K : PySem.W.Frag} {mg : Str → Option Value} {base : Heap}
def sp_family (K : PySem.W.Frag) : Sp := fun vs H Q _ => ∃ (r sc : Addr) (sn : List Int), vs = [.ref r, .int 7] ∧ RowAt K H r sc sn ∧ ∀ v F n H', GoodF n F → RowAt K H' r sc sn → But r H H' → Tq H' v (encF F) → Q v H'
theorem sc_lfamily : FnScope ["_law_row", "_law_most", "_law_size", "_law_often", "_law_bags", "_law_bead"] ["_law_row", "_law_most"] (defScope s_lfamily) := ⟨rfl, rfl, rfl, by decide +kernel, rfl, by decide +kernel, by decide +kernel⟩
theorem ok_lfamily (T : Bt mg) (C1 : Cal P w K mg base 1 "_law_taken" (sp_taken K) []) (C2 : Cal P w K mg base 2 "_law_pick" (sp_pick K) []) (C3 : Cal P w K mg base 2 "_law_mixed" (sp_mixed K) []) (C4 : Cal P w K mg base 1 "_law_named" sp_named [])
    (D : DefAt K mg "_law_family" s_lfamily ["_law_row", "_law_most"]) : Cal P w K mg base 3 "_law_family" (sp_family K) [] := by
  refine cal_ok D sc_lfamily (fun vs H Q E h => ?_) (fun f cdv A outer s H vs Q E hr h => ?_)
  · obtain ⟨r, sc, sn, rfl, _⟩ := h
    rfl
  · obtain ⟨r, sc, sn, rfl, hrow, q⟩ := h
    have nd := sc_lfamily.nd
    obtain ⟨ur, hur⟩ := hrow.some
    refine ⟨_, pss_cons (ps_par (i := 2) (j := 3) (by rfl) nd rfl rfl (by decide) rfl rfl (pa2 (pe_op op_add pe_int (pe_c C1 hr (by decide) (by rfl) (pa2 (pv 0) (pe_op op_sub (pv 1) pe_int))))
          (pe_c C2 hr (by decide) (by rfl) (pa2 (pv 0) (pe_lst (pa_cons pe_int (pa_cons pe_int (pa_cons pe_int (pa2 pe_int pe_int)))))))) (by rfl))
      (pss_cons (ps_set (i := 4) nd rfl (Or.inl rfl) (pe_lst (pa1 (pe_lst (pa2 pe_int pe_int)))))
      (pss_cons (ps_for PassesOwn.never rfl (pi_range2 (by rfl) T.range (pa2 pe_int (pv 2))) (pg_name (i := 5) nd rfl (Or.inl rfl))
        (pss_one (ps_if (pt_cmp (pc_eqI (pe_c C1 hr (by decide) (by rfl) (pa2 (pv 0) (pv 3))) pe_int))
          (pss_one (ps_expr (x_append (x_ixL (pv 4) (pe_c C1 hr (by decide) (by rfl) (pa2 (pv 0) (x_len T (pv 4)))) (fun _ _ => rfl)) (pv 5))))
          (pss_one (ps_expr (x_append (pv 4) (pe_lst (pa2 (pe_c C1 hr (by decide) (by rfl) (pa2 (pv 0) (pv 5))) (pv 5)))))))))
      (pss_one (ps_ret (pe_c C4 hr (by decide) (by rfl) (pa2 (pv 4) (pe_c C3 hr (by decide) (by rfl) (pa2 (pv 0) (pe_listRg (by rfl) (by rfl) T.list (prg_1 (by rfl) T.range (pv 2))))))))))), ?_⟩
    refine ⟨_, rfl, _, rfl, _, _, rfl, rfl, r, sc, sn, 6, rfl, by decide, by decide, hrow, fun k H1 hk row1 b1 => ?_⟩
    refine ⟨_, _, rfl, rfl, ?_⟩
    refine ⟨_, rfl, (by show 5 ≤ sizeLine; decide), fun l0 hl0 => ?_⟩
    have s2 : Same H1 (upd H1 l0 (.lst [V.int 2, .int 3, .int 3, .int 4, .int 9])) := Same.new hl0
    have hl0r : l0 ≠ r := by obtain ⟨u, hu⟩ := row1.some; exact (ne_of_none hu hl0).symm
    refine ⟨r, l0, sc, sn, [2, 3, 3, 4, 9], rfl, by simp, by decide, hl0r, upd_same, row1.keep s2, fun o H3 ho row3 b3 => ?_⟩
    have ho2 : 0 < o ∧ o ≤ 1000 := by
      simp at ho
      omega
    refine ⟨_, _, rfl, ?_⟩
    have b03 : But r H H3 := (b1.trans (But.of s2)).trans b3
    -- bags = [[0, 1]]
    refine ⟨(by show 2 ≤ sizeLine; decide), fun c0 hc0 => ?_⟩
    refine ⟨(by show 1 ≤ sizeLine; decide), fun p hp => ?_⟩
    have ncp : c0 ≠ p := ne_of_none upd_same hp
    have hp3 : H3 p = none := by rw [upd_ne ncp.symm] at hp; exact hp
    have free : ∀ {b : Addr}, H3 b = none → H b = none := fun {b} hb => by
      cases e : H b with
      | none => rfl
      | some u =>
        by_cases hbr : b = r
        · subst hbr
          obtain ⟨u', hu'⟩ := row3.some
          rw [hb] at hu'
          cases hu'
        · rw [b03 _ _ hbr e] at hb
          cases hb
    have s4 : Same H3 (upd (upd H3 c0 (.lst [V.int 0, .int 1])) p (.lst [V.ref c0])) := (Same.new hc0).trans (Same.new hp)
    have M0 : LM H (upd (upd H3 c0 (.lst [V.int 0, .int 1])) p (.lst [V.ref c0])) p [c0] [[0, 1]] := by
      refine ⟨⟨upd_same, rfl, fun i a e => ?_⟩, by simp, fun a ha => ?_, free hp3⟩
      · cases i with
        | zero =>
          cases e
          exact ⟨[0, 1], rfl, by rw [upd_ne ncp, upd_same]; rfl⟩
        | succ i => simp at e
      · rw [List.mem_singleton.mp ha]
        exact ⟨free hc0, ncp⟩
    -- for bead in range(2, size)
    refine ⟨_, rfl, 2, (2 + (k : Int)), rfl, ⟨by omega, by omega, by omega, by omega⟩, ?_⟩
    refine for_it (walk_range (lo := 2) (n := ((2 + (k : Int)) - 2).toNat)) (fun t σ H5 => ∃ y5 as G, σ = [some (.ref r), some (.int 7), some (V.int (2 + (k : Int))), some (vN o), some (.ref p), y5] ∧ But r H H5 ∧ RowAt K H5 r sc sn ∧ LM H H5 p as G ∧ Tree (2 + t) G)
      ⟨_, [c0], [[0, 1]], rfl, b03.trans (But.of s4), row3.keep s4, M0, tree_two⟩ (fun _ _ _ _ _ => True.intro) ?_ ?_
    · rintro t z σ H5 H6 ht ⟨y5, as, G, rfl, b5, row5, M5, t5⟩ ⟨rfl, rfl⟩
      have ht7 : 2 + t + 1 ≤ 7 := by omega
      have ez : V.int (2 + (t : Int)) = vN (2 + t) := by
        have : (2 + (t : Int)) = ((2 + t : Nat) : Int) := by omega
        rw [this]
      have hfew := t5.few
      have hal := M5.ll.len
      refine ⟨_, rfl, _, rfl, r, sc, sn, o, rfl, ho2.1, ho2.2, row5, fun k1 H7 hk1 row7 b7 => ?_⟩
      have M7 := M5.but ⟨_, hur⟩ b7
      have npr : p ≠ r := (ne_of_none hur M5.newp).symm
      refine ⟨_, _, rfl, rfl, _, rfl, ?_⟩
      by_cases hz : (k1 : Int) = 0
      · refine iteDT hz ?_
        refine ⟨_, rfl, _, rfl, _, rfl, p, _, rfl, .inl (sqL M7.ll.top), r, sc, sn, as.length, congrArg (fun n : Nat => [V.ref r, V.int (n : Int)]) (List.length_map ..), ?_, by omega, row7, fun j H8 hj row8 b8 => ?_⟩
        · rw [hal]; exact List.length_pos_iff.mpr t5.ne_nil
        have M8 := M7.but ⟨_, hur⟩ b8
        obtain ⟨b, hb, hbl⟩ := M8.ll.el j as[j] (List.getElem?_eq_getElem hj)
        have hbm := List.mem_of_getElem? hb
        have hlen := Tree.len t5 hbm
        refine ⟨p, as.map V.ref, (j : Int), .ref as[j], rfl, rfl, sqL M8.ll.top, at_of (j := j) rfl (by rw [List.getElem?_map, List.getElem?_eq_getElem hj]; rfl), tyL hbl, _, rfl, as[j], _, _, rfl, rfl, hbl, sz1000 (by rw [List.length_map]; omega), ?_⟩
        have e9 : b.map vN ++ [V.int (2 + (t : Int))] = (b ++ [2 + t]).map vN := by rw [List.map_append, ez]; rfl
        rw [e9]
        have hnew := (M8.new as[j] (List.getElem_mem hj)).1
        have nr : as[j] ≠ r := (ne_of_none hur hnew).symm
        have b9 : But r H (upd H8 as[j] (.lst ((b ++ [2 + t]).map vN))) := fun d u nd' eb => by
          rw [upd_ne (ne_of_none eb hnew)]
          exact b8 _ _ nd' (b7 _ _ nd' (b5 _ _ nd' eb))
        obtain ⟨P0, S0, eG, hset⟩ := set_split hb
        refine ⟨_, as, G.set j (b ++ [2 + t]), rfl, b9, hrow.re b9 row8 (by rw [upd_ne nr.symm]), M8.grow (List.getElem?_eq_getElem hj) _, ?_⟩
        rw [hset]
        rw [eG] at t5
        exact tree_grow t5
      · refine iteDF hz ?_
        refine ⟨_, rfl, tyL M7.ll.top, _, rfl, _, rfl, r, sc, sn, 2 + t, congrArg (fun x => [V.ref r, x]) ez, by omega, by omega, row7, fun j H8 hj row8 b8 => ?_⟩
        have M8 := M7.but ⟨_, hur⟩ b8
        refine ⟨_, rfl, (by show 2 ≤ sizeLine; decide), fun c hc => ?_⟩
        have s9 : Same H8 (upd H8 c (.lst [vN j, V.int (2 + (t : Int))])) := Same.new hc
        refine ⟨p, _, _, rfl, rfl, s9 _ _ M8.ll.top, sz1000 (by rw [List.length_map]; omega), ?_⟩
        have b58 : But r H H8 := (b5.trans b7).trans b8
        have e9 : [vN j, V.int (2 + (t : Int))] = [j, 2 + t].map vN := by rw [ez]; rfl
        rw [e9]
        have ncp : c ≠ p := (ne_of_none M8.ll.top hc).symm
        obtain ⟨u8, hu8⟩ := row8.some
        have ncr : c ≠ r := (ne_of_none hu8 hc).symm
        have hcn : H c = none := by
          cases e : H c with
          | none => rfl
          | some u => rw [b58 _ _ ncr e] at hc; cases hc
        have b9 : But r H (upd (upd H8 c (.lst ([j, 2 + t].map vN))) p (.lst (as.map V.ref ++ [V.ref c]))) := fun d u nd' eb => by
          rw [upd_ne (ne_of_none eb M8.newp), upd_ne (ne_of_none eb hcn)]
          exact b58 _ _ nd' eb
        refine ⟨_, as ++ [c], G ++ [[j, 2 + t]], rfl, b9, hrow.re b9 row8 (by rw [upd_ne npr.symm, upd_ne ncr.symm]), M8.more (fun u d e z => ?_) hc, ?_⟩
        · by_cases hdr : d = r
          · subst hdr; rw [z] at hu8; cases hu8
          · rw [b58 _ _ hdr e] at z; cases z
        · exact tree_hang t5 hj
    · rintro σ H5 ⟨y5, as, G, rfl, b5, row5, M5, t5⟩
      have e2 : 2 + ((2 + (k : Int)) - 2).toNat = 2 + k := by omega
      rw [e2] at t5
      refine ⟨_, rfl, _, rfl, _, rfl, _, rfl, RgOk.of_le (by decide) (by omega) (by decide) (by omega), fun l1 hl1 => ?_⟩
      have s6 : Same H5 (upd H5 l1 (.lst (rgV 0 (2 + (k : Int))))) := Same.new hl1
      have erg : rgV 0 (2 + (k : Int)) = (List.range (2 + k)).map vN := by
        unfold rgV
        have e3 : ((2 + (k : Int)) - 0).toNat = 2 + k := by omega
        rw [e3]
        refine List.map_congr_left fun i _ => ?_
        show V.int (0 + (i : Int)) = V.int (i : Int)
        rw [Int.zero_add]
      rw [erg] at s6 ⊢
      obtain ⟨u5, hu5⟩ := row5.some
      have nl : l1 ≠ r := (ne_of_none hu5 hl1).symm
      refine ⟨r, l1, sc, sn, List.range (2 + k), rfl, by rw [List.length_range]; omega, nl, upd_same, row5.keep s6, fun pn ms H7 pm row7 b7 hpn => ?_⟩
      have b57 := (b5.trans (But.of s6)).trans b7
      have npr : p ≠ r := (ne_of_none hur M5.newp).symm
      have M6 := (M5.but (r := r) ⟨_, hur⟩ (But.of s6)).but (r := r) ⟨_, hur⟩ b7
      refine ⟨p, pn, as, G, ms, 2 + k, rfl, M6.ll, hpn, t5, by omega, pm, fun v H8 s8 hv => ?_⟩
      obtain ⟨T0, F0⟩ := named_tree t5 pm
      exact q v _ (2 + k) H8 ⟨T0, by omega, F0⟩ (row7.keep s8) (b57.trans (But.of s8)) hv
end
end L2.SB
/-! What law needs beside the walk. -/
namespace L2.SB
open PySem PySem.Spec PyProof.Rows Sb
open PySem.W (alike dataLt dataLe)
open C8 (Cal pe_c pe_gc)

/-! ### the likeliest -/
def ltE (a b : Fam × Rat2) : Bool := decide (a.2.1 * b.2.2 < b.2.1 * a.2.2)
theorem ltE_trans {a b c : Fam × Rat2} (ha : 0 < a.2.2) (hc : 0 < c.2.2) (h1 : a.2.1 * b.2.2 ≤ b.2.1 * a.2.2) (h2 : b.2.1 * c.2.2 < c.2.1 * b.2.2) : a.2.1 * c.2.2 < c.2.1 * a.2.2 := by
  have m1 := Nat.mul_le_mul_right c.2.2 h1
  have m2 := Nat.mul_lt_mul_of_pos_right h2 ha
  have e1 : a.2.1 * b.2.2 * c.2.2 = a.2.1 * c.2.2 * b.2.2 := by ac_rfl
  have e2 : b.2.1 * a.2.2 * c.2.2 = b.2.1 * c.2.2 * a.2.2 := by ac_rfl
  have e3 : c.2.1 * b.2.2 * a.2.2 = c.2.1 * a.2.2 * b.2.2 := by ac_rfl
  rw [e1, e2] at m1
  rw [e3] at m2
  exact Nat.lt_of_mul_lt_mul_right (Nat.lt_of_le_of_lt m1 m2)
theorem best_split {L : FR} (hp : ∀ e, e ∈ L → 0 < e.2.2) {b : Fam × Rat2} : bestL L = some b → ∃ P T, L = P ++ b :: T ∧ (∀ e, e ∈ P → ltE e b = true) ∧ ∀ e, e ∈ T → ltE b e = false := by
  revert b hp
  refine dd_rev' (P := fun L => (∀ e, e ∈ L → 0 < e.2.2) → ∀ {b : Fam × Rat2}, bestL L = some b → ∃ P T, L = P ++ b :: T ∧ (∀ e, e ∈ P → ltE e b = true) ∧ ∀ e, e ∈ T → ltE b e = false) (fun _ _ h => nomatch h) (fun L e ih hp b h => ?_) L
  rw [bestL_snoc] at h
  cases hb : bestL L with
  | none =>
    rw [hb] at h
    have hL : L = [] := by
      cases L with
      | nil => rfl
      | cons x L => exact (bestL_none hb List.mem_cons_self).elim
    subst hL
    cases h
    exact ⟨[], [], rfl, (fun _ z => nomatch z), (fun _ z => nomatch z)⟩
  | some c =>
    rw [hb] at h
    obtain ⟨P, T, e1, h1, h2⟩ := ih (fun x hx => hp x (List.mem_append_left _ hx)) hb
    have h : (if c.2.1 * e.2.2 < e.2.1 * c.2.2 then some e else some c) = some b := h
    have pe := hp e (by simp)
    split at h
    · rename_i hlt
      cases h
      refine ⟨L, [], rfl, fun x hx => ?_, (fun _ z => nomatch z)⟩
      have px := hp x (List.mem_append_left _ hx)
      have hx' := hx
      rw [e1] at hx'
      refine decide_eq_true ?_
      rcases List.mem_append.mp hx' with h | h
      · exact ltE_trans px pe (Nat.le_of_lt (of_decide_eq_true (h1 x h))) hlt
      · rcases List.mem_cons.mp h with rfl | h
        · exact hlt
        · have := of_decide_eq_false (h2 x h)
          exact ltE_trans px pe (by omega) hlt
    · rename_i hlt
      cases h
      refine ⟨P, T ++ [e], by rw [e1, List.append_assoc]; rfl, h1, fun x hx => ?_⟩
      rcases List.mem_append.mp hx with h | h
      · exact h2 x h
      · rw [List.mem_singleton.mp h]
        exact decide_eq_false hlt
/-- nothing is likelier than the first that stays -/
theorem best_head {L : FR} (hp : ∀ e, e ∈ L → 0 < e.2.2) {b : Fam × Rat2} (h : bestL L = some b) : (L.filter fun e => !(L.any fun o => ltE e o))[0]? = some b := by
  obtain ⟨P, T, e1, h1, h2⟩ := best_split hp h
  have hb : b ∈ L := by rw [e1]; simp
  have drop : P.filter (fun e => !(L.any fun o => ltE e o)) = [] := by
    rw [List.filter_eq_nil_iff]
    intro x hx
    have : (L.any fun o => ltE x o) = true := List.any_eq_true.mpr ⟨b, hb, h1 x hx⟩
    rw [this]
    exact Bool.false_ne_true
  have keep : (L.any fun o => ltE b o) = false := by
    rw [List.any_eq_false]
    intro x hx
    rw [e1] at hx
    rcases List.mem_append.mp hx with h | h
    · have := of_decide_eq_true (h1 x h)
      intro z
      have := of_decide_eq_true z
      omega
    · rcases List.mem_cons.mp h with rfl | h
      · intro z
        have := of_decide_eq_true z
        omega
      · rw [h2 x h]; exact Bool.false_ne_true
  conv => lhs; arg 1; arg 2; rw [e1]
  rw [List.filter_append, drop, List.filter_cons_of_pos (by rw [keep]; rfl)]
  rfl
theorem best_some {L : FR} (h : L ≠ []) : ∃ b, bestL L = some b := by
  cases e : bestL L with
  | some b => exact ⟨b, rfl⟩
  | none =>
    obtain ⟨x, hx⟩ := List.exists_mem_of_ne_nil _ h
    exact (bestL_none e hx).elim
/-! ### storeys -/
theorem DL_B (n : Nat) {b : Bag} (h : b.length ≤ 1000000) : DL (n + 1) (encB b) := .tup _ _ (fun e he => by
  obtain ⟨x, _, rfl⟩ := List.mem_map.mp he
  exact .int _ _) (by rw [List.length_map]; exact h)
theorem DL_R (n : Nat) (r : Rat2) : DL (n + 1) (encR r) := .tup _ _ (fun e he => by
  rcases List.mem_cons.mp he with rfl | he
  · exact .int _ _
  · rw [List.mem_singleton.mp he]; exact .int _ _) (by show 2 ≤ 1000000; decide)
theorem DL_F (n : Nat) {m : Nat} {F : Fam} (g : GoodF m F) : DL (n + 2) (encF F) := .tup _ _ (fun e he => by
  obtain ⟨b, hb, rfl⟩ := List.mem_map.mp he
  exact DL_B n (by have := Tree.len g.tree hb; have := g.few; omega)) (by rw [List.length_map]; have := g.tree.few; have := g.few; omega)
theorem DL_L (n : Nat) {m : Nat} {L : FR} (g : ∀ e, e ∈ L → GoodF m e.1) (h : L.length ≤ 1000000) : DL (n + 4) (encL L) := .tup _ _ (fun e he => by
  obtain ⟨x, hx, rfl⟩ := List.mem_map.mp he
  refine .tup _ _ (fun d hd => ?_) (by show 2 ≤ 1000000; decide)
  rcases List.mem_cons.mp hd with rfl | hd
  · exact DL_F n (g x hx)
  · rw [List.mem_singleton.mp hd]; exact DL_R _ _) (by rw [List.length_map]; exact h)
/-! ### [(k, d[k]) for k in sorted(d)] -/
theorem srt_mem {L : FR} {e : Fam × Rat2} : e ∈ srt L ↔ e ∈ L := List.mem_mergeSort
theorem keysT {P : Program} {w : World} {H : Hp} {d : Addr} {o : Obj} {xs : NE} {L : FR} (dr : DR P w H d o xs L) (nd : (L.map (·.1)).Nodup) : (xs.map (·.1)).mergeSort (dataLe false encF) = (srt L).map (·.1) := by
  rw [dr.keys, ← sort_items nd]
  rfl
theorem lc_items {K : PySem.W.Frag} {P : Program} {w : World} {p d : Addr} {o : Obj} {xs : NE} {L : FR} {ys : List V} {ih it : Nat} {σ : St} {H1 : Hp} {D : Addr} {Qd : Hp → Prop}
    (hD : H1 D = none) (hp : H1 p = some (.lst ys)) (hy : Tqs H1 ys (((srt L).map (·.1)).map encF)) (dr : DR P w H1 d o xs L) (nd : (L.map (·.1)).Nodup) (hl : L.length ≤ 1000000) (h1 : σ[it]? = some (some (.ref d))) (h2 : ih < σ.length) (h3 : ih ≠ it)
    (hd : ∀ H' zs, Same H1 H' → H' D = some (.lst zs) → Tqs H' zs ((srt L).map encI) → Qd H') :
    ∃ W : Nat → Nat → Hp → Prop, (∃ m, W 0 m (upd H1 D (.lst []))) ∧ ∀ i m H, W i m H →
      ((Itl K p).stop i H ∧ Qd H) ∨ ((Itl K p).go i H ∧ ∃ Nx : Hp → Prop, (∀ H', Nx H' → ∃ m', m' < m ∧ W (i + 1) m' H') ∧ ∀ x H', (Itl K p).yld i H x H' → gName ih x (wipe σ [ih]) H' fun σ2 H2 => wipe σ2 [ih] = wipe σ [ih] ∧ tYes σ2 H2 fun b H3 =>
        if b = true then (tTup (tCons (tVar ih) (tCons (tOp (rIxN P w) (tVar it) (tVar ih)) tNil))) σ2 H3 fun y H4 => ∃ acc, H4 D = some (.lst acc) ∧ acc.length < sizeLine ∧ Nx (upd H4 D (.lst (acc ++ [y]))) else Nx H3) := by
  have hyl : ys.length = (srt L).length := by rw [hy.len, List.length_map, List.length_map]
  have hsl : (srt L).length = L.length := (List.mergeSort_perm L _).length_eq
  refine lc_map (walk_list (xs := ys)) (fun i y H => ∃ e, (srt L)[i]? = some e ∧ Tq H y (encI e)) hD (sz1000 (by omega)) (fun _ _ _ _ tt ⟨e, h, q⟩ => ⟨e, h, q.mono tt⟩) (fun H' s => sqL (s _ _ hp)) ?_ ?_
  · rintro i x H2 H3 hi s2 ⟨rfl, e1⟩ K0 hK
    obtain ⟨k, hk, hkq⟩ := hy.at e1
    rw [List.getElem?_map] at hk
    obtain ⟨e, he, rfl⟩ := Option.map_eq_some_iff.mp hk
    have hmem := srt_mem.mp (List.mem_of_getElem? he)
    have dr2 := dr.same s2
    obtain ⟨va, hva, hvq⟩ := dr2.at nd hmem
    have hk2 := hkq.mono s2.tt
    obtain ⟨ka, kxs, rfl, _, _⟩ := hk2.fam
    have hw : ih < (wipe σ [ih]).length := by rw [wipe_length]; exact h2
    have g1 : ((wipe σ [ih]).set ih (some (V.ref ka)))[ih]? = some (some (V.ref ka)) := List.getElem?_set_self hw
    have g2 : ((wipe σ [ih]).set ih (some (V.ref ka)))[it]? = some (some (V.ref d)) := by
      rw [List.getElem?_set_ne h3]
      show (σ.set ih none)[it]? = _
      rw [List.getElem?_set_ne h3]
      exact h1
    refine ⟨?_, ?_⟩
    · show ((σ.set ih none).set ih (some (V.ref ka))).set ih none = σ.set ih none
      rw [List.set_set, List.set_set]
    · refine ⟨_, g1, _, g2, _, g1, d, o, xs, e.1, ka, va, rfl, rfl, dr2.nd, hk2, hva, (by show 2 ≤ sizeLine; decide), fun t ht => ?_⟩
      have s3 : Same H3 (upd H3 t (.tup [.ref ka, .ref va])) := Same.new ht
      refine hK _ _ s3 ⟨e, he, .tup upd_same (.cons (hk2.mono s3.tt) (.cons (hvq.mono s3.tt) .nil))⟩
  · intro H' zs s2 e pr
    rw [hyl] at pr
    exact hd H' zs s2 e (paired_tqs (f := encI) (paired_map pr))
end L2.SB
/-! The walk: law. -/
namespace L2.SB
open PySem PySem.Spec PyProof.Rows Sb
open PySem.W (alike dataLt dataLe)
open C8 (Cal pe_c pe_gc)

abbrev s_law : Stmt := top 49
/-- the scope of the comprehension that is assigned -/
def lcSet : Stmt → Scope
  | .Assign _ (.ListComp _ _ sc _) _ => sc
  | s => defScope s
/-- all that law calls -/
structure Defs (P : Program) (w : World) (K : PySem.W.Frag) (mg : Str → Option Value) (base : Heap) : Prop where
  T : Bt mg
  taken : Cal P w K mg base 1 "_law_taken" (sp_taken K) []
  alik : Cal P w K mg base 5 "_law_alike" (sp_alike 4) []
  fam : Cal P w K mg base 3 "_law_family" (sp_family K) []
  lowe : Cal P w K mg base 2 "_law_lowered" sp_lowered []
  plu : Cal P w K mg base 3 "_law_plus" sp_plus []
  bli : Cal P w K mg base 4 "_law_blind" (sp_blind P w) []
  cha : Cal P w K mg base 8 "chances" sp_chances []
  mea : Cal P w K mg base 8 "mean_greatest" sp_mean []
  lik : Cal P w K mg base 8 "likeliest" sp_likeliest []
  las : Cal P w K mg base 8 "last_pair" sp_last_pair []
abbrev nLaw : List Str := ["_law_script", "_law_row", "_law_family_here", "_law_times", "_law_told", "_law_here", "_law_mean", "_law_bag", "_law_best", "_law_one", "_law_last"]
section
variable {P : Program} {w : World} {K : PySem.W.Frag} {mg : Str → Option Value} {base : Heap}
def sp_law (K : PySem.W.Frag) : Sp := fun vs H Q _ => ∃ (a : Addr) (ns : List Int), vs = [.ref a] ∧ SqL K H a (ns.map V.int) ∧ ns.length ≤ 63 ∧ ∀ H', Q (.bl true) H'
theorem sc_law : FnScope nLaw ["_law_script"] (defScope s_law) := ⟨rfl, rfl, rfl, by decide +kernel, rfl, by decide +kernel, by decide +kernel⟩
/-- told[x][i] -/
abbrev tShare (K : PySem.W.Frag) (P : Program) (w : World) (ix : Nat) (i : Int) : TE := tOp (rIxT K) (tOp (rIxN P w) (tVar 4) (tVar ix)) (tC (.int i))
abbrev tTimes (K : PySem.W.Frag) (P : Program) (w : World) (a b : Nat) : TE := tOp (rI CMulW fun i j => .int (i * j)) (tShare K P w a 0) (tShare K P w b 1)
theorem ok_law {f : Addr} {fd : FuncData} (C : Defs P w K mg base) (D : Fun K "law" "law" s_law f fd) : FnOk P w K mg base CX0 9 f fd ["_law_script"] (sp_law K) := by
  refine D.ok sc_law (fun vs H Q E h => ?_) (fun cdv A outer s H vs Q E hr h => ?_)
  · obtain ⟨a, ns, rfl, _⟩ := h
    rfl
  · obtain ⟨a, ns, rfl, hs, hn63, q⟩ := h
    have nd := sc_law.nd
    have T := C.T
    refine ⟨_, pss_cons (ps_set (i := 1) nd rfl (Or.inl rfl) (pe_lst (pa_cons (pv 0) (pa_cons pe_int (pa2 pe_int pe_int)))))
      (pss_cons (ps_set (i := 2) nd rfl (Or.inl rfl) (pe_c C.fam hr (by decide) (by rfl) (pa2 (pv 1) pe_int)))
      (pss_cons (ps_set (i := 3) nd rfl (Or.inl rfl) (pe_c C.taken hr (by decide) (by rfl) (pa2 (pv 1) (x_len T (pv 2)))))
      (pss_cons (ps_set (i := 4) nd rfl (Or.inr rfl) (pe_c C.bli hr (by decide) (by rfl) (pa2 (pv 2) (pv 3))))
      (pss_cons (ps_if (pt_not (pt_val (pe_c C.alik hr (by decide) (by rfl) (pa2 (pe_c C.cha hr (by decide) (by rfl) (pa2 (pv 2) (pv 3)))
          (x_tuple T (pe_lc (own := [("_law_here", 5)]) (g := gName 5) (tt := tYes) (te := tTup (tCons (tVar 5) (tCons (tOp (rIxN P w) (tVar 4) (tVar 5)) tNil))) (by rfl) nd (pi_list (x_sorted T (cr_sortK rfl (hu14 hr)) (pv 4)))
            (blkOk_by (N := nLaw) (sc := defScope s_law) (by decide +kernel)) (fun _ _ _ _ _ => pgn (i := 5) nd rfl rfl) (fun _ _ _ _ _ => pts_nil)
            (fun _ _ _ _ _ => pe_tup (pa2 (pv 5) (pe_ix (ix_N (hu10 hr)) (pv 4) (pv 5) (fun _ _ => rfl)))))))))) pss_never pss_nil)
      (pss_cons (ps_set (i := 6) nd rfl (Or.inl rfl) (pe_tup (pa2 pe_int pe_int)))
      (pss_cons (ps_for PassesOwn.never rfl (pi_keysN (pv 4)) (pg_name (i := 5) nd rfl (Or.inl rfl))
        (pss_one (ps_set (i := 6) nd rfl (Or.inl rfl) (pe_c C.plu hr (by decide) (by rfl) (pa2 (pv 6) (pe_c C.lowe hr (by decide) (by rfl) (pa2
          (pe_op op_mulW (x_ixT (pe_ix (ix_N (hu10 hr)) (pv 4) (pv 5) (fun _ _ => rfl)) pe_int (fun _ _ => rfl))
            (x_max T rfl (pe_lc (own := [("_law_bag", 7)]) (g := gName 7) (tt := tYes) (te := tCB (fun xs H Q => ∃ p ys, xs = [.ref p] ∧ (SqL K H p ys ∨ SqT K H p ys) ∧ Q (.int ys.length) H) (tCons (tVar 7) tNil)) (by rfl) nd (pi_tup (pv 5))
              (blkOk_by (N := nLaw) (sc := defScope s_law) (by decide +kernel)) (fun _ _ _ _ _ => pgn (i := 7) nd rfl rfl) (fun _ _ _ _ _ => pts_nil) (fun _ _ _ _ _ => x_len T (pv 7)))))
          (x_ixT (pe_ix (ix_N (hu10 hr)) (pv 4) (pv 5) (fun _ _ => rfl)) pe_int (fun _ _ => rfl)))))))))
      (pss_cons (ps_if (pt_not (pt_val (pe_c C.alik hr (by decide) (by rfl) (pa2 (pe_c C.mea hr (by decide) (by rfl) (pa2 (pv 2) (pv 3))) (pv 6))))) pss_never pss_nil)
      (pss_cons (ps_setLc (i := 8) (own := [("_law_here", 5)]) (g := gName 5) (tt := tTest (tOp (rEq0 K false) (tLc (iKeysN P w (tVar 4)) (gName 9) (tB (tGt (tTimes K P w 9 5) (tTimes K P w 5 9))) (tC (.int 1)) [9]) (tLst tNil))) (te := tVar 5) (by rfl) nd rfl rfl (sw_true rfl rfl rfl (by decide +kernel))
          (pi_list (x_sorted T (cr_sortK rfl (hu14 hr)) (pv 4)))
          (blkOk_by (N := nLaw) (sc := defScope s_law) (by decide +kernel)) (fun _ _ _ _ _ => pg_name (i := 5) nd rfl (Or.inr rfl) (hf := Or.inl rfl))
          (fun _ _ _ _ _ => pts_one (pt_cmpR (op_eq0 (hu64 hr)) (pe_lc (own := [("_law_one", 9)]) (g := gName 9) (tt := tB (tGt (tTimes K P w 9 5) (tTimes K P w 5 9))) (te := tC (.int 1)) (by rfl) nd (pi_keysN (pv 4))
              (blkOk_by (N := nLaw) (sc := relab (defScope s_law) (lcSet ((defBody s_law).getD 8 s_law))) (by decide +kernel)) (fun _ _ _ _ _ => pgn (i := 9) nd rfl rfl)
              (fun _ _ _ _ _ => pts_one (pt_cmp (pc_gt
                (pe_op op_mulW (x_ixT (pe_ix (ix_N (hu10 hr)) (pv 4) (pv 9) (fun _ _ => rfl)) pe_int (fun _ _ => rfl)) (x_ixT (pe_ix (ix_N (hu10 hr)) (pv 4) (pv 5) (fun _ _ => rfl)) pe_int (fun _ _ => rfl)))
                (pe_op op_mulW (x_ixT (pe_ix (ix_N (hu10 hr)) (pv 4) (pv 5) (fun _ _ => rfl)) pe_int (fun _ _ => rfl)) (x_ixT (pe_ix (ix_N (hu10 hr)) (pv 4) (pv 9) (fun _ _ => rfl)) pe_int (fun _ _ => rfl))))))
              (fun _ _ _ _ _ => pe_int)) (pe_lst pa_nil) (nomark _))) (fun _ _ _ _ _ => pv 5))
      (pss_cons (ps_if (pt_not (pt_val (pe_c C.alik hr (by decide) (by rfl) (pa2 (pe_c C.lik hr (by decide) (by rfl) (pa2 (pv 2) (pv 3))) (x_ixL (pv 8) pe_int (fun _ _ => rfl)))))) pss_never pss_nil)
      (pss_cons (ps_if (pt_cmp (pc_eqI (x_len T (pv 2)) pe_int)) (pss_one (ps_ret (pe_cmpR (op_eqT (hu14 hr)) (pe_c C.las hr (by decide) (by rfl) (pa1 (pv 2))) (pe_tup pa_nil) (nomark _)))) pss_nil)
      (pss_cons (ps_set (i := 10) nd rfl (Or.inr rfl) (pe_c C.bli hr (by decide) (by rfl) (pa2 (pv 2) (pe_op op_sub (x_len T (pv 2)) pe_int))))
      (pss_one (ps_ret (pe_c C.alik hr (by decide) (by rfl) (pa2 (pe_c C.las hr (by decide) (by rfl) (pa1 (pv 2)))
          (x_tuple T (pe_lc (own := [("_law_here", 5)]) (g := gName 5) (tt := tYes) (te := tTup (tCons (tVar 5) (tCons (tOp (rIxN P w) (tVar 10) (tVar 5)) tNil))) (by rfl) nd (pi_list (x_sorted T (cr_sortK rfl (hu14 hr)) (pv 10)))
            (blkOk_by (N := nLaw) (sc := defScope s_law) (by decide +kernel)) (fun _ _ _ _ _ => pgn (i := 5) nd rfl rfl) (fun _ _ _ _ _ => pts_nil)
            (fun _ _ _ _ _ => pe_tup (pa2 (pv 5) (pe_ix (ix_N (hu10 hr)) (pv 10) (pv 5) (fun _ _ => rfl))))))))))))))))))))), ?_⟩
    -- row = [script, 0, 5251, 0]
    refine ⟨_, rfl, (by show 4 ≤ sizeLine; decide), fun r hr0 => ?_⟩
    have row1 : RowAt K (upd H r (.lst [.ref a, .int 0, .int 5251, .int 0])) r a ns := ⟨0, 5251, 0, (Scr.new hs hr0).but But.upd, upd_same, by decide, by decide⟩
    -- family, times
    refine ⟨_, rfl, r, a, ns, rfl, row1, fun v F n H2 g row2 b2 hv => ?_⟩
    have hv0 := hv
    obtain ⟨fa, fxs, rfl, hfa, hfx⟩ := hv.fam
    have hfl : fxs.length = F.length := by rw [hfx.len, List.length_map]
    have hfew := g.tree.few
    have hn7 := g.few
    have hF1 : 1 ≤ F.length := List.length_pos_iff.mpr g.tree.ne_nil
    refine ⟨_, rfl, _, rfl, fa, fxs, rfl, .inr (sqT hfa), r, a, ns, F.length, congrArg (fun n : Nat => [V.ref r, V.int (n : Int)]) hfl, by omega, by omega, row2, fun t H3 ht row3 b3 => ?_⟩
    have nfr : fa ≠ r := by
      intro z
      subst z
      obtain ⟨_, _, _, _, h, _⟩ := row2
      rw [hfa] at h
      cases h
    have ht5 : t ≤ 5 := by omega
    have tt23 : TT H2 H3 := fun b xs e => b3 _ _ (fun z => by
      subst z
      obtain ⟨_, _, _, _, h, _⟩ := row2
      rw [e] at h
      cases h) e
    have hv3 := hv0.mono tt23
    have hfa3 := tt23 _ _ hfa
    -- told
    refine ⟨_, rfl, _, rfl, _, F, n, t, rfl, hv3, g, ht, fun d o xs H4 s4 dr => ?_⟩
    obtain ⟨ok, hne⟩ := blind_ok g t ht
    have hgood : ∀ e, e ∈ blind F t → GoodF n e.1 := fun e he => (ok.good e he).1
    have hpos : ∀ e, e ∈ blind F t → 0 < e.2.2 := fun e he => (ok.good e he).2.2.pos
    have h15 : (blind F t).length ≤ 1000000 := Nat.le_trans ok.len (Nat.le_trans (Nat.pow_le_pow_right (by decide) ht5) (by decide))
    have hkne : ∀ x, x ∈ xs → x.1 ≠ [] := fun x hx => by
      obtain ⟨i, hi⟩ := List.mem_iff_getElem?.mp hx
      obtain ⟨e, he, e1, _⟩ := dr.rel.getP hi
      rw [e1]
      exact (hgood e (List.mem_of_getElem? he)).tree.ne_nil
    -- chances
    refine ⟨_, rfl, _, rfl, _, F, n, t, rfl, hv3.mono s4.tt, g, ht, fun v5 H5 s5 hv5 => ?_⟩
    have dr5 := dr.same s5
    refine ⟨_, rfl, d, o, xs, rfl, dr5.nd, hkne, fun ys p hys hp => ?_⟩
    rw [keysT dr5 ok.nd] at hys
    have s6 : Same H5 (upd H5 p (.lst ys)) := Same.new hp
    refine ⟨p, rfl, ⟨_, sqL upd_same⟩, fun D0 hD => ?_⟩
    refine lc_items (ih := 5) (it := 4) hD upd_same (Tqs.mono s6.tt hys) (dr5.same s6) ok.nd h15 rfl (by show 5 < 11; decide) (by decide) fun H7 zs s7 hz hzq => ?_
    refine ⟨D0, zs, rfl, .inl ⟨sqL hz, fun q8 hq8 => ?_⟩⟩
    have s8 : Same H7 (upd H7 q8 (.tup zs)) := Same.new hq8
    have s58 := (s6.trans s7).trans s8
    refine ⟨v5, .ref q8, encL (srt (blind F t)), rfl, hv5.mono s58.tt, .tup upd_same (Tqs.mono s8.tt hzq), DL_L 0 (fun e he => hgood e (srt_mem.mp he)) (by rw [show (srt (blind F t)).length = (blind F t).length from (List.mergeSort_perm _ _).length_eq]; exact h15), fun H9 s9 => ⟨true, rfl, iteF ?_⟩⟩
    have s39 : Same H4 H9 := (s5.trans s58).trans s9
    -- mean
    refine ⟨(by show 2 ≤ sizeLine; decide), fun z0 hz0 => ?_⟩
    have s10 : Same H9 (upd H9 z0 (.tup [V.int 0, V.int 1])) := Same.new hz0
    have dr10 := (dr.same s39).same s10
    generalize hH10 : upd H9 z0 (.tup [V.int 0, V.int 1]) = H10 at s10 dr10 ⊢
    have hz01 : H10 z0 = some (.tup [V.int 0, V.int 1]) := by rw [← hH10]; exact upd_same
    refine ⟨_, rfl, d, o, xs, rfl, dr10.nd.ob, ?_⟩
    refine for_it walk_keysN (fun i σ H4 => ∃ y5 y6 y7 y8 y9 y10, σ = [some (.ref a), some (.ref r), some (.ref fa), some (vN t), some (.ref d), y5, some y6, y7, y8, y9, y10] ∧ Same H10 H4 ∧ Tq H4 y6 (encR (meanL ((blind F t).take i)))) ⟨_, _, _, _, _, _, rfl, Same.refl _, (Tq.ofRat (r := (0, 1)) hz01)⟩ (fun i σ H4 _ h => by
      obtain ⟨_, _, _, _, _, _, _, s, _⟩ := h
      exact s _ _ dr10.nd.ob) ?_ ?_
    · rintro i z σ H11 H12 hi ⟨y5, y6, y7, y8, y9, y10, rfl, s11, hm⟩ ⟨rfl, y, hy, rfl⟩
      obtain ⟨e, he, ey1, _⟩ := dr10.rel.getP hy
      have hkey := dr10.nd.ks y (List.mem_of_getElem? hy)
      rw [ey1] at hkey
      obtain ⟨ge, gl, gr⟩ := ok.good e (List.mem_of_getElem? he)
      have dr11 := dr10.same s11
      obtain ⟨ev, hev, ey2⟩ := dr11.at ok.nd (List.mem_of_getElem? he)
      obtain ⟨n1, n2, n3, n4, n5, n6, n7, n8, n9, n10⟩ := mean_nums ok hn7 ht5 he
      obtain ⟨sa, esa, hsa⟩ := ey2.rat
      have hkey11 := hkey.mono s11.tt
      obtain ⟨ka, kxs, eka, hka, hkx⟩ := hkey11.fam
      have hkl : kxs.length = e.1.length := by rw [hkx.len, List.length_map]
      have hefew := ge.tree.few
      refine ⟨_, rfl, _, rfl, _, rfl, d, o, xs, e.1, y.2.1, ev, rfl, rfl, dr11.nd, hkey11, hev, sa, _, 0, _, esa, rfl, sqT hsa, rfl, ?_⟩
      refine ⟨_, rfl, ka, eka, ⟨_, sqT hka⟩, fun D1 hD1 => ?_⟩
      refine lc_map (walk_tup (xs := kxs)) (fun i y _ => ∃ b, e.1[i]? = some b ∧ y = V.int ((b.length : Nat) : Int)) hD1 (sz1000 (by omega)) (fun _ _ _ _ _ h => h) (fun H' s => sqT (s _ _ hka)) ?_ ?_
      · rintro i x H6 H7 hi s7 ⟨rfl, e1⟩ K0 hK
        obtain ⟨b, hb1, hb2⟩ := hkx.at e1
        obtain ⟨c, rfl, hc⟩ := (hb2.mono s7.tt).bag
        refine ⟨rfl, _, rfl, c, b.map vN, rfl, .inr (sqT hc), ?_⟩
        rw [List.length_map]
        exact hK _ _ (Same.refl _) ⟨b, hb1, rfl⟩
      · intro H13 ys s13 eD pr
        rw [hkl] at pr
        have eb := paired_ints (f := fun b : Bag => ((b.length : Nat) : Int)) (paired_map pr)
        refine ⟨D1, e.1.map fun b => ((b.length : Nat) : Int), rfl, sqL (by rw [eD, eb]), by rw [List.length_map]; exact List.length_pos_iff.mpr ge.tree.ne_nil, fun m hmm hu => ?_⟩
        have em := big_is ge.tree.ne_nil hmm hu
        subst em
        refine ⟨_, _, rfl, rfl, wide_mul (a := 900) (b := 10) (nabs n1) (nabs (by omega)) (by decide) (by decide) (by decide), ?_⟩
        refine ⟨_, rfl, _, rfl, d, o, xs, e.1, y.2.1, ev, rfl, rfl, (dr11.same s13).nd, hkey11.mono s13.tt, hev, sa, _, 1, _, esa, rfl, sqT (s13 _ _ hsa), rfl, ?_⟩
        refine ⟨e.2.1 * big e.1, e.2.2, rfl, n3, Nat.lt_of_lt_of_le n2 (Nat.pow_le_pow_right (by decide) (by decide)), fun lv H14 s14 hlv => ?_⟩
        refine ⟨y6, lv, _, _, rfl, hm.mono (s13.trans s14).tt, hlv, n10, n7, n8, n9, n5, n6, fun rv H15 s15 hrv => ?_⟩
        refine ⟨_, _, _, _, _, _, rfl, ((s11.trans s13).trans s14).trans s15, ?_⟩
        rw [take_snoc he, meanL_snoc]
        exact hrv
    · rintro σ H11 ⟨y5, y6, y7, y8, y9, y10, rfl, s11, hm⟩
      rw [dr10.rel.lenP, List.take_length] at hm
      have s411 : Same H4 H11 := (s39.trans s10).trans s11
      refine ⟨_, rfl, _, rfl, _, F, n, t, rfl, (hv3.mono s4.tt).mono s411.tt, g, ht, fun v12 H12 s12 hv12 => ?_⟩
      refine ⟨_, rfl, v12, y6, _, rfl, hv12, hm.mono s12.tt, DL_R 3 _, fun H13 s13 => ⟨true, rfl, iteF ?_⟩⟩
      have s413 : Same H4 H13 := (s411.trans s12).trans s13
      have dr13 := dr.same s413
      -- best
      refine ⟨_, rfl, d, o, xs, rfl, dr13.nd, hkne, fun ys p hys hp => ?_⟩
      rw [keysT dr13 ok.nd] at hys
      have s14 : Same H13 (upd H13 p (.lst ys)) := Same.new hp
      refine ⟨p, rfl, ⟨_, sqL upd_same⟩, fun D2 hD2 => ?_⟩
      have hyl : ys.length = (srt (blind F t)).length := by rw [hys.len, List.length_map, List.length_map]
      have hsl : (srt (blind F t)).length = (blind F t).length := (List.mergeSort_perm _ _).length_eq
      have hany : ∀ e : Fam × Rat2, ((srt (blind F t)).any fun o => ltE e o) = ((blind F t).any fun o => ltE e o) := fun e => by
        rw [Bool.eq_iff_iff, List.any_eq_true, List.any_eq_true]
        exact ⟨fun ⟨x, hx, h⟩ => ⟨x, srt_mem.mp hx, h⟩, fun ⟨x, hx, h⟩ => ⟨x, srt_mem.mpr hx, h⟩⟩
      have hsm : ∀ e, e ∈ blind F t → e.2.1 < 2 ^ 900 ∧ e.2.2 < 2 ^ 900 := fun e he => by
        obtain ⟨i, hi⟩ := List.mem_iff_getElem?.mp he
        obtain ⟨n1, n2, _⟩ := mean_nums ok hn7 ht5 hi
        exact ⟨n1, n2⟩
      obtain ⟨bst, hbst⟩ := best_some (L := srt (blind F t)) (fun z => by
        have := hsl
        rw [z] at this
        exact hne (List.eq_nil_of_length_eq_zero this.symm))
      have hhead := best_head (fun e he => hpos e (srt_mem.mp he)) hbst
      have e41 : (upd H13 p (.lst ys)) p = some (.lst ys) := upd_same
      have hys14 := Tqs.mono s14.tt hys
      have s414 := s413.trans s14
      generalize upd H13 p (.lst ys) = H14 at hD2 s14 e41 hys14 s414 ⊢
      have dr14 := dr.same s414
      refine lc_gen (walk_list (xs := ys)) (fun i => ((srt (blind F t))[i]?).any fun e => !((srt (blind F t)).any fun o => ltE e o)) (fun i y H => ∃ e, (srt (blind F t))[i]? = some e ∧ Tq H y (encF e.1)) hD2 (sz1000 (by omega)) (fun _ _ _ _ tt ⟨e, h, q⟩ => ⟨e, h, q.mono tt⟩) (fun H' s => sqL (s _ _ e41)) ?_ ?_
      · rintro i x H15 H16 hi s15 ⟨rfl, ex⟩ K0 Kf k1 k2
        obtain ⟨k, hk, hkq⟩ := hys14.at ex
        rw [List.getElem?_map] at hk
        obtain ⟨e, he, rfl⟩ := Option.map_eq_some_iff.mp hk
        have hmem := srt_mem.mp (List.mem_of_getElem? he)
        have hkq15 := hkq.mono s15.tt
        have hkq0 := hkq15
        obtain ⟨ka, kxs, rfl, _, _⟩ := hkq15.fam
        have dr15 := dr14.same s15
        obtain ⟨va, hva, hvq⟩ := dr15.at ok.nd hmem
        obtain ⟨sb, esb, hsb⟩ := hvq.rat
        refine ⟨rfl, ?_⟩
        refine ⟨_, rfl, d, o, xs, rfl, dr15.nd.ob, fun D3 hD3 => ?_⟩
        refine lc_gen walk_keysN (fun j => ((blind F t)[j]?).any fun o => ltE e o) (fun j y _ => ∃ o, (blind F t)[j]? = some o ∧ y = V.int 1) hD3 (sz1000 (by rw [dr15.rel.lenP]; exact h15)) (fun _ _ _ _ _ h => h) (fun H' s => s _ _ dr15.nd.ob) ?_ ?_
        · rintro j z H17 H18 hj s17 ⟨rfl, y, hy, rfl⟩ K1 Kf1 k3 k4
          have dr17 := dr15.same s17
          obtain ⟨e', he', ey1, _⟩ := dr17.rel.getP hy
          have hkey := dr17.nd.ks y (List.mem_of_getElem? hy)
          rw [ey1] at hkey
          have hmem' := List.mem_of_getElem? he'
          obtain ⟨va', hva', hvq'⟩ := dr17.at ok.nd hmem'
          obtain ⟨sa, esa, hsa⟩ := hvq'.rat
          have hsb17 := s17 _ _ hsb
          have hk17 := hkq0.mono s17.tt
          obtain ⟨m1, m2⟩ := hsm e hmem
          obtain ⟨m3, m4⟩ := hsm e' hmem'
          rw [he'] at k3 k4
          refine ⟨rfl, ?_⟩
          refine ⟨_, rfl, _, rfl, d, o, xs, e'.1, y.2.1, va', rfl, rfl, dr17.nd, hkey, hva', sa, _, 0, _, esa, rfl, sqT hsa, rfl, ?_⟩
          refine ⟨_, rfl, _, rfl, d, o, xs, e.1, ka, va, rfl, rfl, dr17.nd, hk17, hva, sb, _, 1, _, esb, rfl, sqT hsb17, rfl, ?_⟩
          refine ⟨_, _, rfl, rfl, wide_mul (a := 900) (b := 900) (nabs m3) (nabs m2) (by decide) (by decide) (by decide), ?_⟩
          refine ⟨_, rfl, _, rfl, d, o, xs, e.1, ka, va, rfl, rfl, dr17.nd, hk17, hva, sb, _, 0, _, esb, rfl, sqT hsb17, rfl, ?_⟩
          refine ⟨_, rfl, _, rfl, d, o, xs, e'.1, y.2.1, va', rfl, rfl, dr17.nd, hkey, hva', sa, _, 1, _, esa, rfl, sqT hsa, rfl, ?_⟩
          refine ⟨_, _, rfl, rfl, wide_mul (a := 900) (b := 900) (nabs m1) (nabs m4) (by decide) (by decide) (by decide), ?_⟩
          refine ⟨_, _, rfl, rfl, _, rfl, ?_⟩
          by_cases hlt : e.2.1 * e'.2.2 < e'.2.1 * e.2.2
          · refine iteDT ?_ ?_
            · show ((e.2.1 : Nat) : Int) * (e'.2.2 : Nat) < ((e'.2.1 : Nat) : Int) * (e.2.2 : Nat)
              rw [nat_mul, nat_mul]
              omega
            · exact k3 (decide_eq_true hlt) _ _ (Same.refl _) ⟨e', rfl, rfl⟩
          · refine iteDF ?_ ?_
            · show ¬ ((e.2.1 : Nat) : Int) * (e'.2.2 : Nat) < ((e'.2.1 : Nat) : Int) * (e.2.2 : Nat)
              rw [nat_mul, nat_mul]
              omega
            · exact k4 (decide_eq_false hlt) _ (Same.refl _)
        · intro H17 zs s17 ez pr
          rw [dr15.rel.lenP] at pr
          have e1 := paired_ints (f := fun _ : Fam × Rat2 => (1 : Int)) (paired_filter pr)
          refine ⟨(by show 0 ≤ sizeLine; decide), fun n0 hn0 => ?_⟩
          have s18 := s17.trans (Same.new (o := .lst []) hn0)
          refine ⟨D3, n0, ((blind F t).filter fun o => ltE e o).map fun _ => (1 : Int), rfl, rfl, sqL ?_, sqL upd_same, _, rfl, ?_⟩
          · rw [upd_ne (ne_of_none ez hn0), ez, e1]
          have es : (((blind F t).filter fun o => ltE e o).map fun _ => (1 : Int)).isEmpty = !((srt (blind F t)).any fun o => ltE e o) := by
            rw [hany]
            cases h : ((blind F t).any fun o => ltE e o) with
            | true =>
              obtain ⟨x, hx, hx2⟩ := List.any_eq_true.mp h
              have : x ∈ (blind F t).filter fun o => ltE e o := List.mem_filter.mpr ⟨hx, hx2⟩
              cases hf : (blind F t).filter fun o => ltE e o with
              | nil => rw [hf] at this; cases this
              | cons _ _ => rfl
            | false =>
              have : (blind F t).filter (fun o => ltE e o) = [] := by
                rw [List.filter_eq_nil_iff]
                exact List.any_eq_false.mp h
              rw [this]
              rfl
          show (if (((blind F t).filter fun o => ltE e o).map fun _ => (1 : Int)).isEmpty = true then _ else _)
          rw [es]
          rw [he] at k1 k2
          cases hq : (!((srt (blind F t)).any fun o => ltE e o)) with
          | true => exact iteT ⟨_, rfl, k1 hq _ _ s18 ⟨e, rfl, hkq0.mono s18.tt⟩⟩
          | false => exact iteF (k2 hq _ s18)
      · intro H15 zs s15 ez pr
        rw [hyl] at pr
        obtain ⟨y0, hy0, hy0q⟩ := (paired_filter pr).getP hhead
        have s415 := s414.trans s15
        refine ⟨_, rfl, _, rfl, _, F, n, t, rfl, (hv3.mono s4.tt).mono s415.tt, g, ht, fun v16 H16 b' hb' s16 hv16 => ?_⟩
        have ebb : b' = bst := by rw [hbst] at hb'; exact (Option.some.inj hb').symm
        subst ebb
        have hbm := srt_mem.mp (bestL_mem hbst)
        refine ⟨_, rfl, D2, zs, 0, y0, rfl, rfl, sqL (s16 _ _ ez), at_of (j := 0) rfl hy0, ?_⟩
        refine ⟨v16, y0, encF b'.1, rfl, hv16, hy0q.mono s16.tt, DL_F 2 (hgood _ hbm), fun H17 s17 => ⟨true, rfl, iteF ?_⟩⟩
        have s417 := (s415.trans s16).trans s17
        have hfa17 := s417 _ _ (s4 _ _ hfa3)
        have hv17 := (hv3.mono s4.tt).mono s417.tt
        refine ⟨_, rfl, fa, fxs, rfl, .inr (sqT hfa17), _, _, rfl, rfl, _, rfl, ?_⟩
        by_cases h1 : F.length = 1
        · refine iteDT (by omega) ?_
          refine ⟨_, rfl, _, F, n, rfl, hv17, g, fun v18 H18 s18 hv18 => ?_⟩
          rw [if_pos (by omega)] at hv18
          refine ⟨(by show 0 ≤ sizeLine; decide), fun k hk => ?_⟩
          have s19 : Same H18 (upd H18 k (.tup [])) := Same.new hk
          refine ⟨.tuple [], .tuple [], hv18.mono s19.tt, .tup upd_same .nil, by decide +kernel, ?_⟩
          have e0 : PyData.eqv (.tuple []) (.tuple []) = true := by rw [PyData.eqv, PyData.eqvAll]
          rw [e0]
          exact q _
        · refine iteDF (by omega) ?_
          have e2 : V.int ((fxs.length : Int) - 2) = vN (F.length - 2) := by
            have : ((fxs.length : Int) - 2) = ((F.length - 2 : Nat) : Int) := by omega
            rw [this]
          have ht2 : F.length - 2 < F.length := by omega
          refine ⟨_, rfl, _, rfl, fa, fxs, rfl, .inr (sqT hfa17), _, _, rfl, rfl, .ref fa, F, n, F.length - 2, congrArg (fun x => [V.ref fa, x]) e2, hv17, g, ht2, fun d2 o2 xs2 H18 s18 dr2 => ?_⟩
          obtain ⟨ok2, hne2⟩ := blind_ok g (F.length - 2) ht2
          have hgood2 : ∀ e, e ∈ blind F (F.length - 2) → GoodF n e.1 := fun e he => (ok2.good e he).1
          have h152 : (blind F (F.length - 2)).length ≤ 1000000 := Nat.le_trans ok2.len (Nat.le_trans (Nat.pow_le_pow_right (by decide) (show F.length - 2 ≤ 5 by omega)) (by decide))
          have hkne2 : ∀ x, x ∈ xs2 → x.1 ≠ [] := fun x hx => by
            obtain ⟨i, hi⟩ := List.mem_iff_getElem?.mp hx
            obtain ⟨e, he, e1, _⟩ := dr2.rel.getP hi
            rw [e1]
            exact (hgood2 e (List.mem_of_getElem? he)).tree.ne_nil
          refine ⟨_, rfl, _, F, n, rfl, hv17.mono s18.tt, g, fun v19 H19 s19 hv19 => ?_⟩
          rw [if_neg (by omega)] at hv19
          have dr19 := dr2.same s19
          refine ⟨_, rfl, d2, o2, xs2, rfl, dr19.nd, hkne2, fun ys9 p9 hys9 hp9 => ?_⟩
          rw [keysT dr19 ok2.nd] at hys9
          have s20 : Same H19 (upd H19 p9 (.lst ys9)) := Same.new hp9
          refine ⟨p9, rfl, ⟨_, sqL upd_same⟩, fun D9 hD9 => ?_⟩
          refine lc_items (ih := 5) (it := 10) hD9 upd_same (Tqs.mono s20.tt hys9) (dr19.same s20) ok2.nd h152 rfl (by show 5 < 11; decide) (by decide) fun H21 zs9 s21 hz9 hzq9 => ?_
          refine ⟨D9, zs9, rfl, .inl ⟨sqL hz9, fun q9 hq9 => ?_⟩⟩
          have s22 : Same H21 (upd H21 q9 (.tup zs9)) := Same.new hq9
          refine ⟨v19, .ref q9, encL (srt (blind F (F.length - 2))), rfl, hv19.mono ((s20.trans s21).trans s22).tt, .tup upd_same (Tqs.mono s22.tt hzq9), DL_L 0 (fun e he => hgood2 e (srt_mem.mp he)) (by rw [show (srt (blind F (F.length - 2))).length = (blind F (F.length - 2)).length from (List.mergeSort_perm _ _).length_eq]; exact h152), fun H23 _ => q _⟩
end
end L2.SB
/-! The end: what the top has written, the head. -/
namespace L2.SB
open PySem PySem.Spec PyProof.Rows Sb
open C8 (Cal pe_c pe_gc)
section
variable {K : PySem.W.Frag} {h : Heap} {mg : Str → Option Value}
theorem at_is_int {f : Addr} {od an : Option Addr} {sl : Array (Option Value)} {oc kV dc pm cd ct : Value} (X : K.In h) (G : h.Ns mainGlobals mg) (ns : PySem.W.nsIn K mainGlobals "is_int" = some (some (.ref f)))
    (lk : K.lookup f = some ⟨oc, od, .func (PySem.W.fnOf "is_int" "is_int" (defArgs s_is_int) (defBody s_is_int) (defScope s_is_int) .none kV dc pm an cd ct), sl⟩) (cc : PySem.W.codeIn K cd "is_int" = true) (kk : PySem.W.keepIn K (.ref f) = true) : DefAt K mg "is_int" s_is_int ["value"] :=
  ⟨_, _, fun_mk (st := s_is_int) lk cc kk, PySem.W.mg_of X G ns, (fun_mk (st := s_is_int) lk cc kk).binds (ps := ["value"]) fun _ _ _ _ _ _ us hl => match us, hl with | [_], _ => rfl⟩
theorem at_is_in {f : Addr} {od an : Option Addr} {sl : Array (Option Value)} {oc kV dc pm cd ct : Value} (X : K.In h) (G : h.Ns mainGlobals mg) (ns : PySem.W.nsIn K mainGlobals "is_in" = some (some (.ref f)))
    (lk : K.lookup f = some ⟨oc, od, .func (PySem.W.fnOf "is_in" "is_in" (defArgs s_is_in) (defBody s_is_in) (defScope s_is_in) .none kV dc pm an cd ct), sl⟩) (cc : PySem.W.codeIn K cd "is_in" = true) (kk : PySem.W.keepIn K (.ref f) = true) : DefAt K mg "is_in" s_is_in ["value", "least", "most"] :=
  ⟨_, _, fun_mk (st := s_is_in) lk cc kk, PySem.W.mg_of X G ns, (fun_mk (st := s_is_in) lk cc kk).binds (ps := ["value", "least", "most"]) fun _ _ _ _ _ _ us hl => match us, hl with | [_, _, _], _ => rfl⟩
theorem at_need_number {f : Addr} {od an : Option Addr} {sl : Array (Option Value)} {oc kV dc pm cd ct : Value} (X : K.In h) (G : h.Ns mainGlobals mg) (ns : PySem.W.nsIn K mainGlobals "need_number" = some (some (.ref f)))
    (lk : K.lookup f = some ⟨oc, od, .func (PySem.W.fnOf "need_number" "need_number" (defArgs s_need_number) (defBody s_need_number) (defScope s_need_number) .none kV dc pm an cd ct), sl⟩) (cc : PySem.W.codeIn K cd "need_number" = true) (kk : PySem.W.keepIn K (.ref f) = true) : DefAt K mg "need_number" s_need_number ["value", "least", "most"] :=
  ⟨_, _, fun_mk (st := s_need_number) lk cc kk, PySem.W.mg_of X G ns, (fun_mk (st := s_need_number) lk cc kk).binds (ps := ["value", "least", "most"]) fun _ _ _ _ _ _ us hl => match us, hl with | [_, _, _], _ => rfl⟩
theorem at_is_rising {f : Addr} {od an : Option Addr} {sl : Array (Option Value)} {oc kV dc pm cd ct : Value} (X : K.In h) (G : h.Ns mainGlobals mg) (ns : PySem.W.nsIn K mainGlobals "is_rising" = some (some (.ref f)))
    (lk : K.lookup f = some ⟨oc, od, .func (PySem.W.fnOf "is_rising" "is_rising" (defArgs s_is_rising) (defBody s_is_rising) (defScope s_is_rising) .none kV dc pm an cd ct), sl⟩) (cc : PySem.W.codeIn K cd "is_rising" = true) (kk : PySem.W.keepIn K (.ref f) = true) : DefAt K mg "is_rising" s_is_rising ["value"] :=
  ⟨_, _, fun_mk (st := s_is_rising) lk cc kk, PySem.W.mg_of X G ns, (fun_mk (st := s_is_rising) lk cc kk).binds (ps := ["value"]) fun _ _ _ _ _ _ us hl => match us, hl with | [_], _ => rfl⟩
theorem at_is_bag {f : Addr} {od an : Option Addr} {sl : Array (Option Value)} {oc kV dc pm cd ct : Value} (X : K.In h) (G : h.Ns mainGlobals mg) (ns : PySem.W.nsIn K mainGlobals "is_bag" = some (some (.ref f)))
    (lk : K.lookup f = some ⟨oc, od, .func (PySem.W.fnOf "is_bag" "is_bag" (defArgs s_is_bag) (defBody s_is_bag) (defScope s_is_bag) .none kV dc pm an cd ct), sl⟩) (cc : PySem.W.codeIn K cd "is_bag" = true) (kk : PySem.W.keepIn K (.ref f) = true) : DefAt K mg "is_bag" s_is_bag ["value"] :=
  ⟨_, _, fun_mk (st := s_is_bag) lk cc kk, PySem.W.mg_of X G ns, (fun_mk (st := s_is_bag) lk cc kk).binds (ps := ["value"]) fun _ _ _ _ _ _ us hl => match us, hl with | [_], _ => rfl⟩
theorem at_need_bags {f : Addr} {od an : Option Addr} {sl : Array (Option Value)} {oc kV dc pm cd ct : Value} (X : K.In h) (G : h.Ns mainGlobals mg) (ns : PySem.W.nsIn K mainGlobals "need_bags" = some (some (.ref f)))
    (lk : K.lookup f = some ⟨oc, od, .func (PySem.W.fnOf "need_bags" "need_bags" (defArgs s_need_bags) (defBody s_need_bags) (defScope s_need_bags) .none kV dc pm an cd ct), sl⟩) (cc : PySem.W.codeIn K cd "need_bags" = true) (kk : PySem.W.keepIn K (.ref f) = true) : DefAt K mg "need_bags" s_need_bags ["value"] :=
  ⟨_, _, fun_mk (st := s_need_bags) lk cc kk, PySem.W.mg_of X G ns, (fun_mk (st := s_need_bags) lk cc kk).binds (ps := ["value"]) fun _ _ _ _ _ _ us hl => match us, hl with | [_], _ => rfl⟩
theorem at_size_of {f : Addr} {od an : Option Addr} {sl : Array (Option Value)} {oc kV dc pm cd ct : Value} (X : K.In h) (G : h.Ns mainGlobals mg) (ns : PySem.W.nsIn K mainGlobals "size_of" = some (some (.ref f)))
    (lk : K.lookup f = some ⟨oc, od, .func (PySem.W.fnOf "size_of" "size_of" (defArgs s_size_of) (defBody s_size_of) (defScope s_size_of) .none kV dc pm an cd ct), sl⟩) (cc : PySem.W.codeIn K cd "size_of" = true) (kk : PySem.W.keepIn K (.ref f) = true) : DefAt K mg "size_of" s_size_of ["bags"] :=
  ⟨_, _, fun_mk (st := s_size_of) lk cc kk, PySem.W.mg_of X G ns, (fun_mk (st := s_size_of) lk cc kk).binds (ps := ["bags"]) fun _ _ _ _ _ _ us hl => match us, hl with | [_], _ => rfl⟩
theorem at_shared_by {f : Addr} {od an : Option Addr} {sl : Array (Option Value)} {oc kV dc pm cd ct : Value} (X : K.In h) (G : h.Ns mainGlobals mg) (ns : PySem.W.nsIn K mainGlobals "shared_by" = some (some (.ref f)))
    (lk : K.lookup f = some ⟨oc, od, .func (PySem.W.fnOf "shared_by" "shared_by" (defArgs s_shared_by) (defBody s_shared_by) (defScope s_shared_by) .none kV dc pm an cd ct), sl⟩) (cc : PySem.W.codeIn K cd "shared_by" = true) (kk : PySem.W.keepIn K (.ref f) = true) : DefAt K mg "shared_by" s_shared_by ["one", "other"] :=
  ⟨_, _, fun_mk (st := s_shared_by) lk cc kk, PySem.W.mg_of X G ns, (fun_mk (st := s_shared_by) lk cc kk).binds (ps := ["one", "other"]) fun _ _ _ _ _ _ us hl => match us, hl with | [_, _], _ => rfl⟩
theorem at_homes_of {f : Addr} {od an : Option Addr} {sl : Array (Option Value)} {oc kV dc pm cd ct : Value} (X : K.In h) (G : h.Ns mainGlobals mg) (ns : PySem.W.nsIn K mainGlobals "homes_of" = some (some (.ref f)))
    (lk : K.lookup f = some ⟨oc, od, .func (PySem.W.fnOf "homes_of" "homes_of" (defArgs s_homes_of) (defBody s_homes_of) (defScope s_homes_of) .none kV dc pm an cd ct), sl⟩) (cc : PySem.W.codeIn K cd "homes_of" = true) (kk : PySem.W.keepIn K (.ref f) = true) : DefAt K mg "homes_of" s_homes_of ["bags"] :=
  ⟨_, _, fun_mk (st := s_homes_of) lk cc kk, PySem.W.mg_of X G ns, (fun_mk (st := s_homes_of) lk cc kk).binds (ps := ["bags"]) fun _ _ _ _ _ _ us hl => match us, hl with | [_], _ => rfl⟩
theorem at_reached_from {f : Addr} {od an : Option Addr} {sl : Array (Option Value)} {oc kV dc pm cd ct : Value} (X : K.In h) (G : h.Ns mainGlobals mg) (ns : PySem.W.nsIn K mainGlobals "reached_from" = some (some (.ref f)))
    (lk : K.lookup f = some ⟨oc, od, .func (PySem.W.fnOf "reached_from" "reached_from" (defArgs s_reached_from) (defBody s_reached_from) (defScope s_reached_from) .none kV dc pm an cd ct), sl⟩) (cc : PySem.W.codeIn K cd "reached_from" = true) (kk : PySem.W.keepIn K (.ref f) = true) : DefAt K mg "reached_from" s_reached_from ["bags", "homes", "first"] :=
  ⟨_, _, fun_mk (st := s_reached_from) lk cc kk, PySem.W.mg_of X G ns, (fun_mk (st := s_reached_from) lk cc kk).binds (ps := ["bags", "homes", "first"]) fun _ _ _ _ _ _ us hl => match us, hl with | [_, _, _], _ => rfl⟩
theorem at_bar_of {f : Addr} {od an : Option Addr} {sl : Array (Option Value)} {oc kV dc pm cd ct : Value} (X : K.In h) (G : h.Ns mainGlobals mg) (ns : PySem.W.nsIn K mainGlobals "bar_of" = some (some (.ref f)))
    (lk : K.lookup f = some ⟨oc, od, .func (PySem.W.fnOf "bar_of" "bar_of" (defArgs s_bar_of) (defBody s_bar_of) (defScope s_bar_of) .none kV dc pm an cd ct), sl⟩) (cc : PySem.W.codeIn K cd "bar_of" = true) (kk : PySem.W.keepIn K (.ref f) = true) : DefAt K mg "bar_of" s_bar_of ["bags"] :=
  ⟨_, _, fun_mk (st := s_bar_of) lk cc kk, PySem.W.mg_of X G ns, (fun_mk (st := s_bar_of) lk cc kk).binds (ps := ["bags"]) fun _ _ _ _ _ _ us hl => match us, hl with | [_], _ => rfl⟩
theorem at_need_family {f : Addr} {od an : Option Addr} {sl : Array (Option Value)} {oc kV dc pm cd ct : Value} (X : K.In h) (G : h.Ns mainGlobals mg) (ns : PySem.W.nsIn K mainGlobals "need_family" = some (some (.ref f)))
    (lk : K.lookup f = some ⟨oc, od, .func (PySem.W.fnOf "need_family" "need_family" (defArgs s_need_family) (defBody s_need_family) (defScope s_need_family) .none kV dc pm an cd ct), sl⟩) (cc : PySem.W.codeIn K cd "need_family" = true) (kk : PySem.W.keepIn K (.ref f) = true) : DefAt K mg "need_family" s_need_family ["value"] :=
  ⟨_, _, fun_mk (st := s_need_family) lk cc kk, PySem.W.mg_of X G ns, (fun_mk (st := s_need_family) lk cc kk).binds (ps := ["value"]) fun _ _ _ _ _ _ us hl => match us, hl with | [_], _ => rfl⟩
theorem at_need_few {f : Addr} {od an : Option Addr} {sl : Array (Option Value)} {oc kV dc pm cd ct : Value} (X : K.In h) (G : h.Ns mainGlobals mg) (ns : PySem.W.nsIn K mainGlobals "need_few" = some (some (.ref f)))
    (lk : K.lookup f = some ⟨oc, od, .func (PySem.W.fnOf "need_few" "need_few" (defArgs s_need_few) (defBody s_need_few) (defScope s_need_few) .none kV dc pm an cd ct), sl⟩) (cc : PySem.W.codeIn K cd "need_few" = true) (kk : PySem.W.keepIn K (.ref f) = true) : DefAt K mg "need_few" s_need_few ["family", "most"] :=
  ⟨_, _, fun_mk (st := s_need_few) lk cc kk, PySem.W.mg_of X G ns, (fun_mk (st := s_need_few) lk cc kk).binds (ps := ["family", "most"]) fun _ _ _ _ _ _ us hl => match us, hl with | [_, _], _ => rfl⟩
theorem at_poured_at {f : Addr} {od an : Option Addr} {sl : Array (Option Value)} {oc kV dc pm cd ct : Value} (X : K.In h) (G : h.Ns mainGlobals mg) (ns : PySem.W.nsIn K mainGlobals "poured_at" = some (some (.ref f)))
    (lk : K.lookup f = some ⟨oc, od, .func (PySem.W.fnOf "poured_at" "poured_at" (defArgs s_poured_at) (defBody s_poured_at) (defScope s_poured_at) .none kV dc pm an cd ct), sl⟩) (cc : PySem.W.codeIn K cd "poured_at" = true) (kk : PySem.W.keepIn K (.ref f) = true) : DefAt K mg "poured_at" s_poured_at ["family", "one", "other"] :=
  ⟨_, _, fun_mk (st := s_poured_at) lk cc kk, PySem.W.mg_of X G ns, (fun_mk (st := s_poured_at) lk cc kk).binds (ps := ["family", "one", "other"]) fun _ _ _ _ _ _ us hl => match us, hl with | [_, _, _], _ => rfl⟩
theorem at_pairs_of {f : Addr} {od an : Option Addr} {sl : Array (Option Value)} {oc kV dc pm cd ct : Value} (X : K.In h) (G : h.Ns mainGlobals mg) (ns : PySem.W.nsIn K mainGlobals "pairs_of" = some (some (.ref f)))
    (lk : K.lookup f = some ⟨oc, od, .func (PySem.W.fnOf "pairs_of" "pairs_of" (defArgs s_pairs_of) (defBody s_pairs_of) (defScope s_pairs_of) .none kV dc pm an cd ct), sl⟩) (cc : PySem.W.codeIn K cd "pairs_of" = true) (kk : PySem.W.keepIn K (.ref f) = true) : DefAt K mg "pairs_of" s_pairs_of ["family"] :=
  ⟨_, _, fun_mk (st := s_pairs_of) lk cc kk, PySem.W.mg_of X G ns, (fun_mk (st := s_pairs_of) lk cc kk).binds (ps := ["family"]) fun _ _ _ _ _ _ us hl => match us, hl with | [_], _ => rfl⟩
theorem at_common {f : Addr} {od an : Option Addr} {sl : Array (Option Value)} {oc kV dc pm cd ct : Value} (X : K.In h) (G : h.Ns mainGlobals mg) (ns : PySem.W.nsIn K mainGlobals "common" = some (some (.ref f)))
    (lk : K.lookup f = some ⟨oc, od, .func (PySem.W.fnOf "common" "common" (defArgs s_common) (defBody s_common) (defScope s_common) .none kV dc pm an cd ct), sl⟩) (cc : PySem.W.codeIn K cd "common" = true) (kk : PySem.W.keepIn K (.ref f) = true) : DefAt K mg "common" s_common ["one", "other"] :=
  ⟨_, _, fun_mk (st := s_common) lk cc kk, PySem.W.mg_of X G ns, (fun_mk (st := s_common) lk cc kk).binds (ps := ["one", "other"]) fun _ _ _ _ _ _ us hl => match us, hl with | [_, _], _ => rfl⟩
theorem at_lowered {f : Addr} {od an : Option Addr} {sl : Array (Option Value)} {oc kV dc pm cd ct : Value} (X : K.In h) (G : h.Ns mainGlobals mg) (ns : PySem.W.nsIn K mainGlobals "lowered" = some (some (.ref f)))
    (lk : K.lookup f = some ⟨oc, od, .func (PySem.W.fnOf "lowered" "lowered" (defArgs s_lowered) (defBody s_lowered) (defScope s_lowered) .none kV dc pm an cd ct), sl⟩) (cc : PySem.W.codeIn K cd "lowered" = true) (kk : PySem.W.keepIn K (.ref f) = true) : DefAt K mg "lowered" s_lowered ["above", "low"] :=
  ⟨_, _, fun_mk (st := s_lowered) lk cc kk, PySem.W.mg_of X G ns, (fun_mk (st := s_lowered) lk cc kk).binds (ps := ["above", "low"]) fun _ _ _ _ _ _ us hl => match us, hl with | [_, _], _ => rfl⟩
theorem at_plus {f : Addr} {od an : Option Addr} {sl : Array (Option Value)} {oc kV dc pm cd ct : Value} (X : K.In h) (G : h.Ns mainGlobals mg) (ns : PySem.W.nsIn K mainGlobals "plus" = some (some (.ref f)))
    (lk : K.lookup f = some ⟨oc, od, .func (PySem.W.fnOf "plus" "plus" (defArgs s_plus) (defBody s_plus) (defScope s_plus) .none kV dc pm an cd ct), sl⟩) (cc : PySem.W.codeIn K cd "plus" = true) (kk : PySem.W.keepIn K (.ref f) = true) : DefAt K mg "plus" s_plus ["one", "other"] :=
  ⟨_, _, fun_mk (st := s_plus) lk cc kk, PySem.W.mg_of X G ns, (fun_mk (st := s_plus) lk cc kk).binds (ps := ["one", "other"]) fun _ _ _ _ _ _ us hl => match us, hl with | [_, _], _ => rfl⟩
theorem at_after {f : Addr} {od an : Option Addr} {sl : Array (Option Value)} {oc kV dc pm cd ct : Value} (X : K.In h) (G : h.Ns mainGlobals mg) (ns : PySem.W.nsIn K mainGlobals "after" = some (some (.ref f)))
    (lk : K.lookup f = some ⟨oc, od, .func (PySem.W.fnOf "after" "after" (defArgs s_after) (defBody s_after) (defScope s_after) .none kV dc pm an cd ct), sl⟩) (cc : PySem.W.codeIn K cd "after" = true) (kk : PySem.W.keepIn K (.ref f) = true) : DefAt K mg "after" s_after ["family", "times"] :=
  ⟨_, _, fun_mk (st := s_after) lk cc kk, PySem.W.mg_of X G ns, (fun_mk (st := s_after) lk cc kk).binds (ps := ["family", "times"]) fun _ _ _ _ _ _ us hl => match us, hl with | [_, _], _ => rfl⟩
theorem at_need_blind {f : Addr} {od an : Option Addr} {sl : Array (Option Value)} {oc kV dc pm cd ct : Value} (X : K.In h) (G : h.Ns mainGlobals mg) (ns : PySem.W.nsIn K mainGlobals "need_blind" = some (some (.ref f)))
    (lk : K.lookup f = some ⟨oc, od, .func (PySem.W.fnOf "need_blind" "need_blind" (defArgs s_need_blind) (defBody s_need_blind) (defScope s_need_blind) .none kV dc pm an cd ct), sl⟩) (cc : PySem.W.codeIn K cd "need_blind" = true) (kk : PySem.W.keepIn K (.ref f) = true) : DefAt K mg "need_blind" s_need_blind ["family", "times"] :=
  ⟨_, _, fun_mk (st := s_need_blind) lk cc kk, PySem.W.mg_of X G ns, (fun_mk (st := s_need_blind) lk cc kk).binds (ps := ["family", "times"]) fun _ _ _ _ _ _ us hl => match us, hl with | [_, _], _ => rfl⟩
theorem at_chances {f : Addr} {od an : Option Addr} {sl : Array (Option Value)} {oc kV dc pm cd ct : Value} (X : K.In h) (G : h.Ns mainGlobals mg) (ns : PySem.W.nsIn K mainGlobals "chances" = some (some (.ref f)))
    (lk : K.lookup f = some ⟨oc, od, .func (PySem.W.fnOf "chances" "chances" (defArgs s_chances) (defBody s_chances) (defScope s_chances) .none kV dc pm an cd ct), sl⟩) (cc : PySem.W.codeIn K cd "chances" = true) (kk : PySem.W.keepIn K (.ref f) = true) : DefAt K mg "chances" s_chances ["family", "times"] :=
  ⟨_, _, fun_mk (st := s_chances) lk cc kk, PySem.W.mg_of X G ns, (fun_mk (st := s_chances) lk cc kk).binds (ps := ["family", "times"]) fun _ _ _ _ _ _ us hl => match us, hl with | [_, _], _ => rfl⟩
theorem at_mean_greatest {f : Addr} {od an : Option Addr} {sl : Array (Option Value)} {oc kV dc pm cd ct : Value} (X : K.In h) (G : h.Ns mainGlobals mg) (ns : PySem.W.nsIn K mainGlobals "mean_greatest" = some (some (.ref f)))
    (lk : K.lookup f = some ⟨oc, od, .func (PySem.W.fnOf "mean_greatest" "mean_greatest" (defArgs s_mean_greatest) (defBody s_mean_greatest) (defScope s_mean_greatest) .none kV dc pm an cd ct), sl⟩) (cc : PySem.W.codeIn K cd "mean_greatest" = true) (kk : PySem.W.keepIn K (.ref f) = true) : DefAt K mg "mean_greatest" s_mean_greatest ["family", "times"] :=
  ⟨_, _, fun_mk (st := s_mean_greatest) lk cc kk, PySem.W.mg_of X G ns, (fun_mk (st := s_mean_greatest) lk cc kk).binds (ps := ["family", "times"]) fun _ _ _ _ _ _ us hl => match us, hl with | [_, _], _ => rfl⟩
theorem at_likeliest {f : Addr} {od an : Option Addr} {sl : Array (Option Value)} {oc kV dc pm cd ct : Value} (X : K.In h) (G : h.Ns mainGlobals mg) (ns : PySem.W.nsIn K mainGlobals "likeliest" = some (some (.ref f)))
    (lk : K.lookup f = some ⟨oc, od, .func (PySem.W.fnOf "likeliest" "likeliest" (defArgs s_likeliest) (defBody s_likeliest) (defScope s_likeliest) .none kV dc pm an cd ct), sl⟩) (cc : PySem.W.codeIn K cd "likeliest" = true) (kk : PySem.W.keepIn K (.ref f) = true) : DefAt K mg "likeliest" s_likeliest ["family", "times"] :=
  ⟨_, _, fun_mk (st := s_likeliest) lk cc kk, PySem.W.mg_of X G ns, (fun_mk (st := s_likeliest) lk cc kk).binds (ps := ["family", "times"]) fun _ _ _ _ _ _ us hl => match us, hl with | [_, _], _ => rfl⟩
theorem at_last_pair {f : Addr} {od an : Option Addr} {sl : Array (Option Value)} {oc kV dc pm cd ct : Value} (X : K.In h) (G : h.Ns mainGlobals mg) (ns : PySem.W.nsIn K mainGlobals "last_pair" = some (some (.ref f)))
    (lk : K.lookup f = some ⟨oc, od, .func (PySem.W.fnOf "last_pair" "last_pair" (defArgs s_last_pair) (defBody s_last_pair) (defScope s_last_pair) .none kV dc pm an cd ct), sl⟩) (cc : PySem.W.codeIn K cd "last_pair" = true) (kk : PySem.W.keepIn K (.ref f) = true) : DefAt K mg "last_pair" s_last_pair ["family"] :=
  ⟨_, _, fun_mk (st := s_last_pair) lk cc kk, PySem.W.mg_of X G ns, (fun_mk (st := s_last_pair) lk cc kk).binds (ps := ["family"]) fun _ _ _ _ _ _ us hl => match us, hl with | [_], _ => rfl⟩
theorem at__law_taken {f : Addr} {od an : Option Addr} {sl : Array (Option Value)} {oc kV dc pm cd ct : Value} (X : K.In h) (G : h.Ns mainGlobals mg) (ns : PySem.W.nsIn K mainGlobals "_law_taken" = some (some (.ref f)))
    (lk : K.lookup f = some ⟨oc, od, .func (PySem.W.fnOf "_law_taken" "_law_taken" (defArgs s_ltaken) (defBody s_ltaken) (defScope s_ltaken) .none kV dc pm an cd ct), sl⟩) (cc : PySem.W.codeIn K cd "_law_taken" = true) (kk : PySem.W.keepIn K (.ref f) = true) : DefAt K mg "_law_taken" s_ltaken ["_law_row", "_law_many"] :=
  ⟨_, _, fun_mk (st := s_ltaken) lk cc kk, PySem.W.mg_of X G ns, (fun_mk (st := s_ltaken) lk cc kk).binds (ps := ["_law_row", "_law_many"]) fun _ _ _ _ _ _ us hl => match us, hl with | [_, _], _ => rfl⟩
theorem at__law_pick {f : Addr} {od an : Option Addr} {sl : Array (Option Value)} {oc kV dc pm cd ct : Value} (X : K.In h) (G : h.Ns mainGlobals mg) (ns : PySem.W.nsIn K mainGlobals "_law_pick" = some (some (.ref f)))
    (lk : K.lookup f = some ⟨oc, od, .func (PySem.W.fnOf "_law_pick" "_law_pick" (defArgs s_lpick) (defBody s_lpick) (defScope s_lpick) .none kV dc pm an cd ct), sl⟩) (cc : PySem.W.codeIn K cd "_law_pick" = true) (kk : PySem.W.keepIn K (.ref f) = true) : DefAt K mg "_law_pick" s_lpick ["_law_row", "_law_things"] :=
  ⟨_, _, fun_mk (st := s_lpick) lk cc kk, PySem.W.mg_of X G ns, (fun_mk (st := s_lpick) lk cc kk).binds (ps := ["_law_row", "_law_things"]) fun _ _ _ _ _ _ us hl => match us, hl with | [_, _], _ => rfl⟩
theorem at__law_alike {f : Addr} {od an : Option Addr} {sl : Array (Option Value)} {oc kV dc pm cd ct : Value} (X : K.In h) (G : h.Ns mainGlobals mg) (ns : PySem.W.nsIn K mainGlobals "_law_alike" = some (some (.ref f)))
    (lk : K.lookup f = some ⟨oc, od, .func (PySem.W.fnOf "_law_alike" "_law_alike" (defArgs s_lalike) (defBody s_lalike) (defScope s_lalike) .none kV dc pm an cd ct), sl⟩) (cc : PySem.W.codeIn K cd "_law_alike" = true) (kk : PySem.W.keepIn K (.ref f) = true) : DefAt K mg "_law_alike" s_lalike ["_law_found", "_law_due"] :=
  ⟨_, _, fun_mk (st := s_lalike) lk cc kk, PySem.W.mg_of X G ns, (fun_mk (st := s_lalike) lk cc kk).binds (ps := ["_law_found", "_law_due"]) fun _ _ _ _ _ _ us hl => match us, hl with | [_, _], _ => rfl⟩
theorem at__law_mixed {f : Addr} {od an : Option Addr} {sl : Array (Option Value)} {oc kV dc pm cd ct : Value} (X : K.In h) (G : h.Ns mainGlobals mg) (ns : PySem.W.nsIn K mainGlobals "_law_mixed" = some (some (.ref f)))
    (lk : K.lookup f = some ⟨oc, od, .func (PySem.W.fnOf "_law_mixed" "_law_mixed" (defArgs s_lmixed) (defBody s_lmixed) (defScope s_lmixed) .none kV dc pm an cd ct), sl⟩) (cc : PySem.W.codeIn K cd "_law_mixed" = true) (kk : PySem.W.keepIn K (.ref f) = true) : DefAt K mg "_law_mixed" s_lmixed ["_law_row", "_law_some"] :=
  ⟨_, _, fun_mk (st := s_lmixed) lk cc kk, PySem.W.mg_of X G ns, (fun_mk (st := s_lmixed) lk cc kk).binds (ps := ["_law_row", "_law_some"]) fun _ _ _ _ _ _ us hl => match us, hl with | [_, _], _ => rfl⟩
theorem at__law_named {f : Addr} {od an : Option Addr} {sl : Array (Option Value)} {oc kV dc pm cd ct : Value} (X : K.In h) (G : h.Ns mainGlobals mg) (ns : PySem.W.nsIn K mainGlobals "_law_named" = some (some (.ref f)))
    (lk : K.lookup f = some ⟨oc, od, .func (PySem.W.fnOf "_law_named" "_law_named" (defArgs s_lnamed) (defBody s_lnamed) (defScope s_lnamed) .none kV dc pm an cd ct), sl⟩) (cc : PySem.W.codeIn K cd "_law_named" = true) (kk : PySem.W.keepIn K (.ref f) = true) : DefAt K mg "_law_named" s_lnamed ["_law_bags", "_law_names"] :=
  ⟨_, _, fun_mk (st := s_lnamed) lk cc kk, PySem.W.mg_of X G ns, (fun_mk (st := s_lnamed) lk cc kk).binds (ps := ["_law_bags", "_law_names"]) fun _ _ _ _ _ _ us hl => match us, hl with | [_, _], _ => rfl⟩
theorem at__law_family {f : Addr} {od an : Option Addr} {sl : Array (Option Value)} {oc kV dc pm cd ct : Value} (X : K.In h) (G : h.Ns mainGlobals mg) (ns : PySem.W.nsIn K mainGlobals "_law_family" = some (some (.ref f)))
    (lk : K.lookup f = some ⟨oc, od, .func (PySem.W.fnOf "_law_family" "_law_family" (defArgs s_lfamily) (defBody s_lfamily) (defScope s_lfamily) .none kV dc pm an cd ct), sl⟩) (cc : PySem.W.codeIn K cd "_law_family" = true) (kk : PySem.W.keepIn K (.ref f) = true) : DefAt K mg "_law_family" s_lfamily ["_law_row", "_law_most"] :=
  ⟨_, _, fun_mk (st := s_lfamily) lk cc kk, PySem.W.mg_of X G ns, (fun_mk (st := s_lfamily) lk cc kk).binds (ps := ["_law_row", "_law_most"]) fun _ _ _ _ _ _ us hl => match us, hl with | [_, _], _ => rfl⟩
theorem at__law_pours {f : Addr} {od an : Option Addr} {sl : Array (Option Value)} {oc kV dc pm cd ct : Value} (X : K.In h) (G : h.Ns mainGlobals mg) (ns : PySem.W.nsIn K mainGlobals "_law_pours" = some (some (.ref f)))
    (lk : K.lookup f = some ⟨oc, od, .func (PySem.W.fnOf "_law_pours" "_law_pours" (defArgs s_lpours) (defBody s_lpours) (defScope s_lpours) .none kV dc pm an cd ct), sl⟩) (cc : PySem.W.codeIn K cd "_law_pours" = true) (kk : PySem.W.keepIn K (.ref f) = true) : DefAt K mg "_law_pours" s_lpours ["_law_family_here"] :=
  ⟨_, _, fun_mk (st := s_lpours) lk cc kk, PySem.W.mg_of X G ns, (fun_mk (st := s_lpours) lk cc kk).binds (ps := ["_law_family_here"]) fun _ _ _ _ _ _ us hl => match us, hl with | [_], _ => rfl⟩
theorem at__law_pour {f : Addr} {od an : Option Addr} {sl : Array (Option Value)} {oc kV dc pm cd ct : Value} (X : K.In h) (G : h.Ns mainGlobals mg) (ns : PySem.W.nsIn K mainGlobals "_law_pour" = some (some (.ref f)))
    (lk : K.lookup f = some ⟨oc, od, .func (PySem.W.fnOf "_law_pour" "_law_pour" (defArgs s_lpour) (defBody s_lpour) (defScope s_lpour) .none kV dc pm an cd ct), sl⟩) (cc : PySem.W.codeIn K cd "_law_pour" = true) (kk : PySem.W.keepIn K (.ref f) = true) : DefAt K mg "_law_pour" s_lpour ["_law_family_here", "_law_one", "_law_other"] :=
  ⟨_, _, fun_mk (st := s_lpour) lk cc kk, PySem.W.mg_of X G ns, (fun_mk (st := s_lpour) lk cc kk).binds (ps := ["_law_family_here", "_law_one", "_law_other"]) fun _ _ _ _ _ _ us hl => match us, hl with | [_, _, _], _ => rfl⟩
theorem at__law_common {f : Addr} {od an : Option Addr} {sl : Array (Option Value)} {oc kV dc pm cd ct : Value} (X : K.In h) (G : h.Ns mainGlobals mg) (ns : PySem.W.nsIn K mainGlobals "_law_common" = some (some (.ref f)))
    (lk : K.lookup f = some ⟨oc, od, .func (PySem.W.fnOf "_law_common" "_law_common" (defArgs s_lcommon) (defBody s_lcommon) (defScope s_lcommon) .none kV dc pm an cd ct), sl⟩) (cc : PySem.W.codeIn K cd "_law_common" = true) (kk : PySem.W.keepIn K (.ref f) = true) : DefAt K mg "_law_common" s_lcommon ["_law_one", "_law_other"] :=
  ⟨_, _, fun_mk (st := s_lcommon) lk cc kk, PySem.W.mg_of X G ns, (fun_mk (st := s_lcommon) lk cc kk).binds (ps := ["_law_one", "_law_other"]) fun _ _ _ _ _ _ us hl => match us, hl with | [_, _], _ => rfl⟩
theorem at__law_lowered {f : Addr} {od an : Option Addr} {sl : Array (Option Value)} {oc kV dc pm cd ct : Value} (X : K.In h) (G : h.Ns mainGlobals mg) (ns : PySem.W.nsIn K mainGlobals "_law_lowered" = some (some (.ref f)))
    (lk : K.lookup f = some ⟨oc, od, .func (PySem.W.fnOf "_law_lowered" "_law_lowered" (defArgs s_llowered) (defBody s_llowered) (defScope s_llowered) .none kV dc pm an cd ct), sl⟩) (cc : PySem.W.codeIn K cd "_law_lowered" = true) (kk : PySem.W.keepIn K (.ref f) = true) : DefAt K mg "_law_lowered" s_llowered ["_law_above", "_law_low"] :=
  ⟨_, _, fun_mk (st := s_llowered) lk cc kk, PySem.W.mg_of X G ns, (fun_mk (st := s_llowered) lk cc kk).binds (ps := ["_law_above", "_law_low"]) fun _ _ _ _ _ _ us hl => match us, hl with | [_, _], _ => rfl⟩
theorem at__law_plus {f : Addr} {od an : Option Addr} {sl : Array (Option Value)} {oc kV dc pm cd ct : Value} (X : K.In h) (G : h.Ns mainGlobals mg) (ns : PySem.W.nsIn K mainGlobals "_law_plus" = some (some (.ref f)))
    (lk : K.lookup f = some ⟨oc, od, .func (PySem.W.fnOf "_law_plus" "_law_plus" (defArgs s_lplus) (defBody s_lplus) (defScope s_lplus) .none kV dc pm an cd ct), sl⟩) (cc : PySem.W.codeIn K cd "_law_plus" = true) (kk : PySem.W.keepIn K (.ref f) = true) : DefAt K mg "_law_plus" s_lplus ["_law_one", "_law_other"] :=
  ⟨_, _, fun_mk (st := s_lplus) lk cc kk, PySem.W.mg_of X G ns, (fun_mk (st := s_lplus) lk cc kk).binds (ps := ["_law_one", "_law_other"]) fun _ _ _ _ _ _ us hl => match us, hl with | [_, _], _ => rfl⟩
theorem at__law_blind {f : Addr} {od an : Option Addr} {sl : Array (Option Value)} {oc kV dc pm cd ct : Value} (X : K.In h) (G : h.Ns mainGlobals mg) (ns : PySem.W.nsIn K mainGlobals "_law_blind" = some (some (.ref f)))
    (lk : K.lookup f = some ⟨oc, od, .func (PySem.W.fnOf "_law_blind" "_law_blind" (defArgs s_lblind) (defBody s_lblind) (defScope s_lblind) .none kV dc pm an cd ct), sl⟩) (cc : PySem.W.codeIn K cd "_law_blind" = true) (kk : PySem.W.keepIn K (.ref f) = true) : DefAt K mg "_law_blind" s_lblind ["_law_family_here", "_law_times"] :=
  ⟨_, _, fun_mk (st := s_lblind) lk cc kk, PySem.W.mg_of X G ns, (fun_mk (st := s_lblind) lk cc kk).binds (ps := ["_law_family_here", "_law_times"]) fun _ _ _ _ _ _ us hl => match us, hl with | [_, _], _ => rfl⟩
theorem const_at {x : Str} {i : Int} {t : Tok} (X : K.In h) (G : h.Ns mainGlobals mg) (ns : PySem.W.nsIn K mainGlobals x = some (some (.int i t))) : ∃ u, mg x = some u ∧ RelV (.int i) u := ⟨_, PySem.W.mg_of X G ns, t, rfl⟩
theorem bt_mk (X : K.In h) (G : h.Ns mainGlobals mg) (b_isinstance : PySem.W.nsIn K mainGlobals "isinstance" = some none) (b_int : PySem.W.nsIn K mainGlobals "int" = some none) (b_bool : PySem.W.nsIn K mainGlobals "bool" = some none) (b_tuple : PySem.W.nsIn K mainGlobals "tuple" = some none) (b_list : PySem.W.nsIn K mainGlobals "list" = some none) (b_str : PySem.W.nsIn K mainGlobals "str" = some none) (b_set : PySem.W.nsIn K mainGlobals "set" = some none) (b_len : PySem.W.nsIn K mainGlobals "len" = some none) (b_all : PySem.W.nsIn K mainGlobals "all" = some none) (b_zip : PySem.W.nsIn K mainGlobals "zip" = some none) (b_max : PySem.W.nsIn K mainGlobals "max" = some none) (b_sum : PySem.W.nsIn K mainGlobals "sum" = some none) (b_abs : PySem.W.nsIn K mainGlobals "abs" = some none) (b_range : PySem.W.nsIn K mainGlobals "range" = some none) (b_enumerate : PySem.W.nsIn K mainGlobals "enumerate" = some none) (b_sorted : PySem.W.nsIn K mainGlobals "sorted" = some none) : Bt mg :=
  ⟨PySem.W.mg_none_of X G b_isinstance, PySem.W.mg_none_of X G b_int, PySem.W.mg_none_of X G b_bool, PySem.W.mg_none_of X G b_tuple, PySem.W.mg_none_of X G b_list, PySem.W.mg_none_of X G b_str, PySem.W.mg_none_of X G b_set, PySem.W.mg_none_of X G b_len, PySem.W.mg_none_of X G b_all, PySem.W.mg_none_of X G b_zip, PySem.W.mg_none_of X G b_max, PySem.W.mg_none_of X G b_sum, PySem.W.mg_none_of X G b_abs, PySem.W.mg_none_of X G b_range, PySem.W.mg_none_of X G b_enumerate, PySem.W.mg_none_of X G b_sorted⟩
end
theorem defs_mk {P : Program} {w : World} {K : PySem.W.Frag} {mg : Str → Option Value} {base : Heap} (T : Bt mg) (m60 : ∃ u, mg "MOST_BEADS" = some u ∧ RelV (.int 60) u) (m8 : ∃ u, mg "MOST_BAGS" = some u ∧ RelV (.int 8) u)
    (d_is_int : DefAt K mg "is_int" s_is_int ["value"])
    (d_is_in : DefAt K mg "is_in" s_is_in ["value", "least", "most"])
    (d_need_number : DefAt K mg "need_number" s_need_number ["value", "least", "most"])
    (d_is_rising : DefAt K mg "is_rising" s_is_rising ["value"])
    (d_is_bag : DefAt K mg "is_bag" s_is_bag ["value"])
    (d_need_bags : DefAt K mg "need_bags" s_need_bags ["value"])
    (d_size_of : DefAt K mg "size_of" s_size_of ["bags"])
    (d_shared_by : DefAt K mg "shared_by" s_shared_by ["one", "other"])
    (d_homes_of : DefAt K mg "homes_of" s_homes_of ["bags"])
    (d_reached_from : DefAt K mg "reached_from" s_reached_from ["bags", "homes", "first"])
    (d_bar_of : DefAt K mg "bar_of" s_bar_of ["bags"])
    (d_need_family : DefAt K mg "need_family" s_need_family ["value"])
    (d_need_few : DefAt K mg "need_few" s_need_few ["family", "most"])
    (d_poured_at : DefAt K mg "poured_at" s_poured_at ["family", "one", "other"])
    (d_pairs_of : DefAt K mg "pairs_of" s_pairs_of ["family"])
    (d_common : DefAt K mg "common" s_common ["one", "other"])
    (d_lowered : DefAt K mg "lowered" s_lowered ["above", "low"])
    (d_plus : DefAt K mg "plus" s_plus ["one", "other"])
    (d_after : DefAt K mg "after" s_after ["family", "times"])
    (d_need_blind : DefAt K mg "need_blind" s_need_blind ["family", "times"])
    (d_chances : DefAt K mg "chances" s_chances ["family", "times"])
    (d_mean_greatest : DefAt K mg "mean_greatest" s_mean_greatest ["family", "times"])
    (d_likeliest : DefAt K mg "likeliest" s_likeliest ["family", "times"])
    (d_last_pair : DefAt K mg "last_pair" s_last_pair ["family"])
    (d__law_taken : DefAt K mg "_law_taken" s_ltaken ["_law_row", "_law_many"])
    (d__law_pick : DefAt K mg "_law_pick" s_lpick ["_law_row", "_law_things"])
    (d__law_alike : DefAt K mg "_law_alike" s_lalike ["_law_found", "_law_due"])
    (d__law_mixed : DefAt K mg "_law_mixed" s_lmixed ["_law_row", "_law_some"])
    (d__law_named : DefAt K mg "_law_named" s_lnamed ["_law_bags", "_law_names"])
    (d__law_family : DefAt K mg "_law_family" s_lfamily ["_law_row", "_law_most"])
    (d__law_pours : DefAt K mg "_law_pours" s_lpours ["_law_family_here"])
    (d__law_pour : DefAt K mg "_law_pour" s_lpour ["_law_family_here", "_law_one", "_law_other"])
    (d__law_common : DefAt K mg "_law_common" s_lcommon ["_law_one", "_law_other"])
    (d__law_lowered : DefAt K mg "_law_lowered" s_llowered ["_law_above", "_law_low"])
    (d__law_plus : DefAt K mg "_law_plus" s_lplus ["_law_one", "_law_other"])
    (d__law_blind : DefAt K mg "_law_blind" s_lblind ["_law_family_here", "_law_times"]) : Defs P w K mg base := by
  have c_is_int : Cal P w K mg base 1 "is_int" sp_is_int [] := ok_is_int T d_is_int
  have c_is_in : Cal P w K mg base 2 "is_in" sp_is_in [] := ok_is_in c_is_int d_is_in
  have c_need_number : Cal P w K mg base 3 "need_number" sp_need_number [] := ok_need_number c_is_in d_need_number
  have c_is_rising : Cal P w K mg base 1 "is_rising" sp_is_rising [] := ok_is_rising T d_is_rising
  have c_is_bag : Cal P w K mg base 3 "is_bag" sp_is_bag [] := ok_is_bag T m60 c_is_in c_is_rising d_is_bag
  have c_need_bags : Cal P w K mg base 4 "need_bags" sp_need_bags [] := ok_need_bags T c_is_bag c_is_rising d_need_bags
  have c_size_of : Cal P w K mg base 1 "size_of" sp_size_of [] := ok_size_of T d_size_of
  have c_shared_by : Cal P w K mg base 1 "shared_by" sp_shared_by [] := ok_shared_by d_shared_by
  have c_homes_of : Cal P w K mg base 2 "homes_of" sp_homes_of [] := ok_homes_of T c_size_of d_homes_of
  have c_reached_from : Cal P w K mg base 1 "reached_from" sp_reached_from [] := ok_reached_from d_reached_from
  have c_bar_of : Cal P w K mg base 3 "bar_of" sp_bar_of [] := ok_bar_of T c_homes_of c_shared_by c_reached_from d_bar_of
  have c_need_family : Cal P w K mg base 5 "need_family" sp_need_family [] := ok_need_family c_need_bags c_bar_of d_need_family
  have c_need_few : Cal P w K mg base 6 "need_few" sp_need_few [] := ok_need_few T c_need_family d_need_few
  have c_need_blind : Cal P w K mg base 7 "need_blind" sp_need_blind [] := ok_need_blind T m8 c_need_few c_need_number d_need_blind
  have c_poured_at : Cal P w K mg base 1 "poured_at" sp_pour [] := ok_poured_at T d_poured_at
  have c_pairs_of : Cal P w K mg base 3 "pairs_of" sp_pours [] := ok_pairs_of T c_homes_of d_pairs_of
  have c_common : Cal P w K mg base 1 "common" sp_common [] := ok_common T d_common
  have c_lowered : Cal P w K mg base 2 "lowered" sp_lowered [] := ok_lowered c_common d_lowered
  have c_plus : Cal P w K mg base 3 "plus" sp_plus [] := ok_plus c_lowered d_plus
  have c_after : Cal P w K mg base 4 "after" (sp_blind P w) [] := ok_after T c_pairs_of c_poured_at c_plus c_lowered d_after
  have l_taken : Cal P w K mg base 1 "_law_taken" (sp_taken K) [] := ok_ltaken T d__law_taken
  have l_pick : Cal P w K mg base 2 "_law_pick" (sp_pick K) [] := ok_lpick T l_taken d__law_pick
  have l_mixed : Cal P w K mg base 2 "_law_mixed" (sp_mixed K) [] := ok_lmixed T l_taken d__law_mixed
  have l_named : Cal P w K mg base 1 "_law_named" sp_named [] := ok_lnamed T d__law_named
  have l_common : Cal P w K mg base 1 "_law_common" sp_common [] := ok_lcommon T d__law_common
  have l_lowered : Cal P w K mg base 2 "_law_lowered" sp_lowered [] := ok_llowered l_common d__law_lowered
  have l_plus : Cal P w K mg base 3 "_law_plus" sp_plus [] := ok_lplus l_lowered d__law_plus
  have l_pours : Cal P w K mg base 1 "_law_pours" sp_pours [] := ok_lpours T d__law_pours
  have l_pour : Cal P w K mg base 1 "_law_pour" sp_pour [] := ok_lpour T d__law_pour
  exact ⟨T, l_taken, ok_lalike T d__law_alike 4, ok_lfamily T l_taken l_pick l_mixed l_named d__law_family, l_lowered, l_plus, ok_lblind T l_pours l_pour l_plus l_lowered d__law_blind,
    ok_chances T c_need_blind c_after d_chances, ok_mean_greatest T c_need_blind c_after c_plus c_lowered d_mean_greatest, ok_likeliest T c_need_blind c_after d_likeliest, ok_last_pair T m8 c_need_few c_after d_last_pair⟩
/-- law itself -/
theorem law_mk {l : PySem.W.OpenLaw} {w : World} {K : PySem.W.Frag} {h : Heap} {mg : Str → Option Value} {fa f : Addr} {od an : Option Addr} {sl : Array (Option Value)} {oc kV dc pm cd ct : Value} (X : K.In h) (G : h.Ns mainGlobals mg) (hfa : mg "law" = some (.ref fa))
    (ns : PySem.W.nsIn K mainGlobals "law" = some (some (.ref f))) (lk : K.lookup f = some ⟨oc, od, .func (PySem.W.fnOf "law" "law" (defArgs s_law) (defBody s_law) (defScope s_law) .none kV dc pm an cd ct), sl⟩) (cc : PySem.W.codeIn K cd "law" = true) (kk : PySem.W.keepIn K (.ref f) = true)
    (C : ∀ base : Heap, Defs l.prog w K mg base) :
    ∃ fd : FuncData, (∀ (s : Shared) (v : Value), BindsTo s fd ⟨[v], []⟩ [("_law_script", v)]) ∧ ∀ base : Heap, K.In base → base.Ns mainGlobals mg → FnOk l.prog w K mg base CX0 9 fa fd ["_law_script"] (sp_law K) := by
  have e := hfa.symm.trans (PySem.W.mg_of X G ns)
  cases e
  exact ⟨_, fun s v => .of_eq rfl, fun base _ _ => ok_law (C base) (fun_mk (st := s_law) lk cc kk)⟩
theorem walk {l : PySem.W.OpenLaw} {q : Program} {loose : List Str} {XP : (Str → Option Value) → Heap → Prop} {YP : World → Heap → Prop} {d : DefRec} {K : Params → PySem.W.Frag} (hn : l.most = some 63) (hdf : d.params.defaults = [])
    (hY : ∀ (w : World) (h : Heap), YP w h → (K w.params).In h)
    (F : ∀ (w : World) (mg : Str → Option Value) (fa : Addr) (h : Heap), (K w.params).In h → h.Ns mainGlobals mg → mg d.name = some (.ref fa) →
      ∃ fd : FuncData, (∀ (s : Shared) (u : Value), BindsTo s fd ⟨[u], []⟩ [("_law_script", u)]) ∧ ∀ base : Heap, (K w.params).In base → base.Ns mainGlobals mg → FnOk l.prog w (K w.params) mg base CX0 9 fa fd ["_law_script"] (sp_law (K w.params))) :
    PySem.W.WalkO q loose XP YP l.row.toRowW d [] (fun f vs => PySem.call f vs) :=
  L2.walk_of (n := 63) (k := 9) (x := "_law_script") (CX := fun _ => CX0) (sp := fun w => sp_law (K w.params)) hn (by decide) hdf ⟨rfl, by decide, by decide⟩ hY F (fun _ _ a ns hl _ hS => ⟨a, ns, rfl, hS, hl, fun _ => rfl⟩) fun _ _ _ _ _ z => z
end L2.SB
open PySem PySem.W PyProof.Rows
set_option maxRecDepth 100000 in
set_option maxHeartbeats 0 in
theorem PySem.Challenge.cw_sharebags_k51_whole_blind_pourers_holds : PySem.Challenge.rw_sharebags_k51_whole_blind_pourers.Holds := by
  w_on; o_law; k_head; (case hw => w_witness2)
  k_fill
  refine L2.SB.walk (l := PySem.Challenge.rw_sharebags_k51_whole_blind_pourers) rfl rfl (fun w h Y => PySem.W.kIn_of Y) ?F
  case F =>
    intro w mg fa h KX G hmg0
    have hmg : mg "law" = some (.ref fa) := hmg0
    clear hmg0
    have T : L2.SB.Bt mg := by
      refine' L2.SB.bt_mk KX G ?b_isinstance ?b_int ?b_bool ?b_tuple ?b_list ?b_str ?b_set ?b_len ?b_all ?b_zip ?b_max ?b_sum ?b_abs ?b_range ?b_enumerate ?b_sorted
      (case b_isinstance => k_is)
      (case b_int => k_is)
      (case b_bool => k_is)
      (case b_tuple => k_is)
      (case b_list => k_is)
      (case b_str => k_is)
      (case b_set => k_is)
      (case b_len => k_is)
      (case b_all => k_is)
      (case b_zip => k_is)
      (case b_max => k_is)
      (case b_sum => k_is)
      (case b_abs => k_is)
      (case b_range => k_is)
      (case b_enumerate => k_is)
      (case b_sorted => k_is)
    have m60 : ∃ u, mg "MOST_BEADS" = some u ∧ L2.RelV (.int 60) u := by
      refine' L2.SB.const_at KX G ?ns
      (case ns => k_is)
    have m8 : ∃ u, mg "MOST_BAGS" = some u ∧ L2.RelV (.int 8) u := by
      refine' L2.SB.const_at KX G ?ns
      (case ns => k_is)
    have d_is_int : L2.SB.DefAt (L2.KOf KX) mg "is_int" L2.SB.s_is_int ["value"] := by
      unfold L2.KOf
      refine' L2.SB.at_is_int KX G ?ns ?lk ?cc ?kk
      (case ns => k_is); (case lk => k_is); (case cc => k_is); (case kk => k_is)
    have d_is_in : L2.SB.DefAt (L2.KOf KX) mg "is_in" L2.SB.s_is_in ["value", "least", "most"] := by
      unfold L2.KOf
      refine' L2.SB.at_is_in KX G ?ns ?lk ?cc ?kk
      (case ns => k_is); (case lk => k_is); (case cc => k_is); (case kk => k_is)
    have d_need_number : L2.SB.DefAt (L2.KOf KX) mg "need_number" L2.SB.s_need_number ["value", "least", "most"] := by
      unfold L2.KOf
      refine' L2.SB.at_need_number KX G ?ns ?lk ?cc ?kk
      (case ns => k_is); (case lk => k_is); (case cc => k_is); (case kk => k_is)
    have d_is_rising : L2.SB.DefAt (L2.KOf KX) mg "is_rising" L2.SB.s_is_rising ["value"] := by
      unfold L2.KOf
      refine' L2.SB.at_is_rising KX G ?ns ?lk ?cc ?kk
      (case ns => k_is); (case lk => k_is); (case cc => k_is); (case kk => k_is)
    have d_is_bag : L2.SB.DefAt (L2.KOf KX) mg "is_bag" L2.SB.s_is_bag ["value"] := by
      unfold L2.KOf
      refine' L2.SB.at_is_bag KX G ?ns ?lk ?cc ?kk
      (case ns => k_is); (case lk => k_is); (case cc => k_is); (case kk => k_is)
    have d_need_bags : L2.SB.DefAt (L2.KOf KX) mg "need_bags" L2.SB.s_need_bags ["value"] := by
      unfold L2.KOf
      refine' L2.SB.at_need_bags KX G ?ns ?lk ?cc ?kk
      (case ns => k_is); (case lk => k_is); (case cc => k_is); (case kk => k_is)
    have d_size_of : L2.SB.DefAt (L2.KOf KX) mg "size_of" L2.SB.s_size_of ["bags"] := by
      unfold L2.KOf
      refine' L2.SB.at_size_of KX G ?ns ?lk ?cc ?kk
      (case ns => k_is); (case lk => k_is); (case cc => k_is); (case kk => k_is)
    have d_shared_by : L2.SB.DefAt (L2.KOf KX) mg "shared_by" L2.SB.s_shared_by ["one", "other"] := by
      unfold L2.KOf
      refine' L2.SB.at_shared_by KX G ?ns ?lk ?cc ?kk
      (case ns => k_is); (case lk => k_is); (case cc => k_is); (case kk => k_is)
    have d_homes_of : L2.SB.DefAt (L2.KOf KX) mg "homes_of" L2.SB.s_homes_of ["bags"] := by
      unfold L2.KOf
      refine' L2.SB.at_homes_of KX G ?ns ?lk ?cc ?kk
      (case ns => k_is); (case lk => k_is); (case cc => k_is); (case kk => k_is)
    have d_reached_from : L2.SB.DefAt (L2.KOf KX) mg "reached_from" L2.SB.s_reached_from ["bags", "homes", "first"] := by
      unfold L2.KOf
      refine' L2.SB.at_reached_from KX G ?ns ?lk ?cc ?kk
      (case ns => k_is); (case lk => k_is); (case cc => k_is); (case kk => k_is)
    have d_bar_of : L2.SB.DefAt (L2.KOf KX) mg "bar_of" L2.SB.s_bar_of ["bags"] := by
      unfold L2.KOf
      refine' L2.SB.at_bar_of KX G ?ns ?lk ?cc ?kk
      (case ns => k_is); (case lk => k_is); (case cc => k_is); (case kk => k_is)
    have d_need_family : L2.SB.DefAt (L2.KOf KX) mg "need_family" L2.SB.s_need_family ["value"] := by
      unfold L2.KOf
      refine' L2.SB.at_need_family KX G ?ns ?lk ?cc ?kk
      (case ns => k_is); (case lk => k_is); (case cc => k_is); (case kk => k_is)
    have d_need_few : L2.SB.DefAt (L2.KOf KX) mg "need_few" L2.SB.s_need_few ["family", "most"] := by
      unfold L2.KOf
      refine' L2.SB.at_need_few KX G ?ns ?lk ?cc ?kk
      (case ns => k_is); (case lk => k_is); (case cc => k_is); (case kk => k_is)
    have d_poured_at : L2.SB.DefAt (L2.KOf KX) mg "poured_at" L2.SB.s_poured_at ["family", "one", "other"] := by
      unfold L2.KOf
      refine' L2.SB.at_poured_at KX G ?ns ?lk ?cc ?kk
      (case ns => k_is); (case lk => k_is); (case cc => k_is); (case kk => k_is)
    have d_pairs_of : L2.SB.DefAt (L2.KOf KX) mg "pairs_of" L2.SB.s_pairs_of ["family"] := by
      unfold L2.KOf
      refine' L2.SB.at_pairs_of KX G ?ns ?lk ?cc ?kk
      (case ns => k_is); (case lk => k_is); (case cc => k_is); (case kk => k_is)
    have d_common : L2.SB.DefAt (L2.KOf KX) mg "common" L2.SB.s_common ["one", "other"] := by
      unfold L2.KOf
      refine' L2.SB.at_common KX G ?ns ?lk ?cc ?kk
      (case ns => k_is); (case lk => k_is); (case cc => k_is); (case kk => k_is)
    have d_lowered : L2.SB.DefAt (L2.KOf KX) mg "lowered" L2.SB.s_lowered ["above", "low"] := by
      unfold L2.KOf
      refine' L2.SB.at_lowered KX G ?ns ?lk ?cc ?kk
      (case ns => k_is); (case lk => k_is); (case cc => k_is); (case kk => k_is)
    have d_plus : L2.SB.DefAt (L2.KOf KX) mg "plus" L2.SB.s_plus ["one", "other"] := by
      unfold L2.KOf
      refine' L2.SB.at_plus KX G ?ns ?lk ?cc ?kk
      (case ns => k_is); (case lk => k_is); (case cc => k_is); (case kk => k_is)
    have d_after : L2.SB.DefAt (L2.KOf KX) mg "after" L2.SB.s_after ["family", "times"] := by
      unfold L2.KOf
      refine' L2.SB.at_after KX G ?ns ?lk ?cc ?kk
      (case ns => k_is); (case lk => k_is); (case cc => k_is); (case kk => k_is)
    have d_need_blind : L2.SB.DefAt (L2.KOf KX) mg "need_blind" L2.SB.s_need_blind ["family", "times"] := by
      unfold L2.KOf
      refine' L2.SB.at_need_blind KX G ?ns ?lk ?cc ?kk
      (case ns => k_is); (case lk => k_is); (case cc => k_is); (case kk => k_is)
    have d_chances : L2.SB.DefAt (L2.KOf KX) mg "chances" L2.SB.s_chances ["family", "times"] := by
      unfold L2.KOf
      refine' L2.SB.at_chances KX G ?ns ?lk ?cc ?kk
      (case ns => k_is); (case lk => k_is); (case cc => k_is); (case kk => k_is)
    have d_mean_greatest : L2.SB.DefAt (L2.KOf KX) mg "mean_greatest" L2.SB.s_mean_greatest ["family", "times"] := by
      unfold L2.KOf
      refine' L2.SB.at_mean_greatest KX G ?ns ?lk ?cc ?kk
      (case ns => k_is); (case lk => k_is); (case cc => k_is); (case kk => k_is)
    have d_likeliest : L2.SB.DefAt (L2.KOf KX) mg "likeliest" L2.SB.s_likeliest ["family", "times"] := by
      unfold L2.KOf
      refine' L2.SB.at_likeliest KX G ?ns ?lk ?cc ?kk
      (case ns => k_is); (case lk => k_is); (case cc => k_is); (case kk => k_is)
    have d_last_pair : L2.SB.DefAt (L2.KOf KX) mg "last_pair" L2.SB.s_last_pair ["family"] := by
      unfold L2.KOf
      refine' L2.SB.at_last_pair KX G ?ns ?lk ?cc ?kk
      (case ns => k_is); (case lk => k_is); (case cc => k_is); (case kk => k_is)
    have d__law_taken : L2.SB.DefAt (L2.KOf KX) mg "_law_taken" L2.SB.s_ltaken ["_law_row", "_law_many"] := by
      unfold L2.KOf
      refine' L2.SB.at__law_taken KX G ?ns ?lk ?cc ?kk
      (case ns => k_is); (case lk => k_is); (case cc => k_is); (case kk => k_is)
    have d__law_pick : L2.SB.DefAt (L2.KOf KX) mg "_law_pick" L2.SB.s_lpick ["_law_row", "_law_things"] := by
      unfold L2.KOf
      refine' L2.SB.at__law_pick KX G ?ns ?lk ?cc ?kk
      (case ns => k_is); (case lk => k_is); (case cc => k_is); (case kk => k_is)
    have d__law_alike : L2.SB.DefAt (L2.KOf KX) mg "_law_alike" L2.SB.s_lalike ["_law_found", "_law_due"] := by
      unfold L2.KOf
      refine' L2.SB.at__law_alike KX G ?ns ?lk ?cc ?kk
      (case ns => k_is); (case lk => k_is); (case cc => k_is); (case kk => k_is)
    have d__law_mixed : L2.SB.DefAt (L2.KOf KX) mg "_law_mixed" L2.SB.s_lmixed ["_law_row", "_law_some"] := by
      unfold L2.KOf
      refine' L2.SB.at__law_mixed KX G ?ns ?lk ?cc ?kk
      (case ns => k_is); (case lk => k_is); (case cc => k_is); (case kk => k_is)
    have d__law_named : L2.SB.DefAt (L2.KOf KX) mg "_law_named" L2.SB.s_lnamed ["_law_bags", "_law_names"] := by
      unfold L2.KOf
      refine' L2.SB.at__law_named KX G ?ns ?lk ?cc ?kk
      (case ns => k_is); (case lk => k_is); (case cc => k_is); (case kk => k_is)
    have d__law_family : L2.SB.DefAt (L2.KOf KX) mg "_law_family" L2.SB.s_lfamily ["_law_row", "_law_most"] := by
      unfold L2.KOf
      refine' L2.SB.at__law_family KX G ?ns ?lk ?cc ?kk
      (case ns => k_is); (case lk => k_is); (case cc => k_is); (case kk => k_is)
    have d__law_pours : L2.SB.DefAt (L2.KOf KX) mg "_law_pours" L2.SB.s_lpours ["_law_family_here"] := by
      unfold L2.KOf
      refine' L2.SB.at__law_pours KX G ?ns ?lk ?cc ?kk
      (case ns => k_is); (case lk => k_is); (case cc => k_is); (case kk => k_is)
    have d__law_pour : L2.SB.DefAt (L2.KOf KX) mg "_law_pour" L2.SB.s_lpour ["_law_family_here", "_law_one", "_law_other"] := by
      unfold L2.KOf
      refine' L2.SB.at__law_pour KX G ?ns ?lk ?cc ?kk
      (case ns => k_is); (case lk => k_is); (case cc => k_is); (case kk => k_is)
    have d__law_common : L2.SB.DefAt (L2.KOf KX) mg "_law_common" L2.SB.s_lcommon ["_law_one", "_law_other"] := by
      unfold L2.KOf
      refine' L2.SB.at__law_common KX G ?ns ?lk ?cc ?kk
      (case ns => k_is); (case lk => k_is); (case cc => k_is); (case kk => k_is)
    have d__law_lowered : L2.SB.DefAt (L2.KOf KX) mg "_law_lowered" L2.SB.s_llowered ["_law_above", "_law_low"] := by
      unfold L2.KOf
      refine' L2.SB.at__law_lowered KX G ?ns ?lk ?cc ?kk
      (case ns => k_is); (case lk => k_is); (case cc => k_is); (case kk => k_is)
    have d__law_plus : L2.SB.DefAt (L2.KOf KX) mg "_law_plus" L2.SB.s_lplus ["_law_one", "_law_other"] := by
      unfold L2.KOf
      refine' L2.SB.at__law_plus KX G ?ns ?lk ?cc ?kk
      (case ns => k_is); (case lk => k_is); (case cc => k_is); (case kk => k_is)
    have d__law_blind : L2.SB.DefAt (L2.KOf KX) mg "_law_blind" L2.SB.s_lblind ["_law_family_here", "_law_times"] := by
      unfold L2.KOf
      refine' L2.SB.at__law_blind KX G ?ns ?lk ?cc ?kk
      (case ns => k_is); (case lk => k_is); (case cc => k_is); (case kk => k_is)
    refine' L2.SB.law_mk KX G hmg ?ns ?lk ?cc ?kk fun base => L2.SB.defs_mk T m60 m8 d_is_int d_is_in d_need_number d_is_rising d_is_bag d_need_bags d_size_of d_shared_by d_homes_of d_reached_from d_bar_of d_need_family d_need_few d_poured_at d_pairs_of d_common d_lowered d_plus d_after d_need_blind d_chances d_mean_greatest d_likeliest d_last_pair d__law_taken d__law_pick d__law_alike d__law_mixed d__law_named d__law_family d__law_pours d__law_pour d__law_common d__law_lowered d__law_plus d__law_blind
    (case ns => k_is); (case lk => k_is); (case cc => k_is); (case kk => k_is)
